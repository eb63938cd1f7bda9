import PyProof.Rows.All
import Wide.All
import OpenK.AllK
import Wide.FinOn
import HandS.ForMost
import HandS.Lambda
import HandS.EndBits
import HandS.Wide
import HandS.IsInst
import HandS.Conv
import HandS.TupAny
import PyProof.Rows.RuleB_pow
import HandS.Star
import HandS.Style
import HandS.NoneIn
import HandS.WideMore
import PyProof.StrOps2
import KE.SortData
import KE.KSortTup
import PyProof.ReprRoads
import KE.GoesNew
import KE.GoesEnum
import HandS.Zip
import HandS.Defaults
import PyProof.ReprLen
import HandS.TryOnly
import HandS.ExcOwn
import HandS.DictComp
import KE.KIndexOf
import PyProof.DictUpdate
import PyProof.EnumMake
import PyProof.EnumStmt
import HandS.TupSets
import HandS.SetFor
import KE.KDictDisplayH
import KE.KDictSum
import HandS.TupLen
import HandS.Deep
import HandS.Property
import OpenK.KMeth
import OpenK.KOps
import KE.KCallOwn
import KE.KOpsOwn
import HandS.TupMul
import HandS.DictEq
import HandS.Text
import KE.KRevSl
import HandS.ClsMeth
import HandS.FStr
import KE.KFmtOwn
import KE.KOwnIter
import HandS.IterVal
import HandS.Codes
import HandS.Iter
import HandS.More
import HandS.ListItems
import PyProof.RowDictHeap
import PyProof.ListStr
import KE.KDictZip
import KE.KNest
import KE.KNestM
import HandS.TryMany
import HandS.ExcField
import KE.KExcSuper
import HandS.SetTxt0
import PyProof.StrWalks
import KE.KSortKeySt
import HandS.SortKw
import KE.KDflt
import KE.DataMinMax
import OpenK.KEqL
import HandS.MakeKwOnly
import KE.KDictWalk
import HandS.Flow
import HandS.Head2
import PySem.Challenge.RW_whatcounts_k15_errors_of_overlays
set_option Elab.async false
set_option linter.all false
set_option maxRecDepth 100000
set_option maxHeartbeats 4000000
set_option synthInstance.maxSize 5000
set_option synthInstance.maxHeartbeats 400000
namespace DHead
open PySem PySem.W PySem.Calls PyProof.Rows
/-- what the Hook looks at, off the tree -/
theorem obs_off (l : List Addr) (s : SharedT) : l.map (HandSHeadRun.getT s) = l.map s.abs.heap.get? := List.map_congr_left fun b _ => HandSHeadRun.getT_eq s b
end DHead
namespace Wk15
def hnames0 : List PySem.Str := ["_wall", "CountError", "InvalidLetters", "InvalidText", "InvalidPattern", "InvalidSum", "InvalidOperation", "InvalidNumber", "TooMany", "MAX_TEXT", "MAX_PATTERN", "PRIMES", "MOST_LETTERS", "GREATEST", "is_integer", "is_integer_within", "is_prime", "are_small", "is_letters", "is_text_within", "is_pattern_within", "require_letters", "require_text", "require_pattern", "require_prime", "require_kind", "rest", "ordered", "chosen", "tails_of"]
def hnames1 : List PySem.Str := ["counts_of", "put", "with_letter", "first_row", "next_row", "overlays_of", "with_overlays", "product_of", "MAX_DEGREE", "MAX_WEIGHTS", "are_weights", "kept_weights", "Sum", "sum_with", "added", "sum_of_degrees", "require_degree", "number_at", "weights_behind", "require_sum", "require_fit", "MAX_OVERLAY", "MAX_SIZE", "MAX_IMAGE", "overlays", "less", "binomial_of", "turned_round", "renamed", "are_images"]
def hnames2 : List PySem.Str := ["led_parts", "led", "_law_cup", "_law_bit", "_law_pick", "_law_met", "_law_right"]
def hnames : List PySem.Str := hnames0 ++ hnames1 ++ hnames2
abbrev hview : PySem.Program := PySem.W.view (PySem.W.OpenLaw.row PySem.Challenge.rw_whatcounts_k15_errors_of_overlays).prog [74]
end Wk15
open PySem.W in
/-- the head by one run of the kernel over the heap as a tree -/
local macro_rules
  | `(tactic| o_head ($f $k $a $e $t)) => `(tactic| refine HandSHeadRun.head_any (q := Wk15.hview) (H := $f $k $a $e $t) (ob := fun s => (List.map (HandSHeadRun.getT s) $a, List.map (HandSHeadRun.getT s) $t)) (M := 12000) (loose := Wk15.hnames) (kwd := []) (fun s => Prod.ext (DHead.obs_off $a s) (DHead.obs_off $t s)) (by kernel_rfl) (fun _ => by kernel_rfl)
      (fun _ => by intro _; kernel_rfl) (by rfl) (by rfl) (by rfl) (by rfl) (by first | assumption | decide +kernel) (by decide +kernel) ⟨rfl, rfl, rfl, rfl, rfl, by decide +kernel⟩ ?hw ?hc)
open PySem PySem.W PyProof.Rows in
set_option maxHeartbeats 0 in
open_top hd_top for PySem.Challenge.rw_whatcounts_k15_errors_of_overlays
set_option exponentiation.threshold 256
namespace Dk
open PySem PySem.Spec PyProof.Rows L2
inductive D where
  | non | bl (b : Bool) | int (i : Int) | str (x : Str) | lst (xs : List D) | tup (xs : List D) | dic (kvs : List (Key × D)) | scr (ns : List Int) | gup (xs : List D) | hup (xs : List D) | dit (kvs : List (List Key × D)) | obj (n : Str) (fs : List (Str × D)) | cls (n : Str)
/-- a tuple whose object is known to have no dict of its own -/
def GoodT (F : Hp) (a : Addr) : Prop := ∃ o u, F a = some (.frz o u) ∧ o.dict = none
/-- a dict: it may be locked -/
def LkD : HO → Prop
  | .dK _ => True
  | .dT _ => True
  | _ => False
/-- F' knows what F knows; a dict may be locked meanwhile -/
def Sm (F F' : Hp) : Prop := ∀ a o, F a = some o → F' a = some o ∨ ∃ od, LkD o ∧ F' a = some (.frz od o)
theorem Sm.refl (F : Hp) : Sm F F := fun _ _ h => .inl h
theorem Sm.trans {F F1 F2 : Hp} (a : Sm F F1) (b : Sm F1 F2) : Sm F F2 := fun c o h => by
  rcases a c o h with h | ⟨od, l, h⟩
  · exact b c o h
  · rcases b c _ h with h | ⟨_, e, _⟩
    · exact .inr ⟨od, l, h⟩
    · exact False.elim e
theorem Sm.of {F F' : Hp} (s : Same F F') : Sm F F' := fun a o h => .inl (s a o h)
theorem Sm.at {F F' : Hp} {a : Addr} {o : HO} (s : Sm F F') (h : F a = some o) (n : ¬ LkD o := by exact fun h => h) : F' a = some o := by
  rcases s a o h with h | ⟨_, e, _⟩
  · exact h
  · exact absurd e n
theorem Sm.rd {F F' : Hp} {a : Addr} {u : HO} (s : Sm F F') (h : Rd F a u) : Rd F' a u := by
  rcases h with h | ⟨o, h⟩
  · rcases s a _ h with h | ⟨od, _, h⟩
    · exact .inl h
    · exact .inr ⟨od, h⟩
  · exact .inr ⟨o, s.at h⟩
theorem Sm.some {F F' : Hp} {a : Addr} {o : HO} (s : Sm F F') (h : F a = some o) : ∃ u, F' a = some u := by
  rcases s a o h with h | ⟨_, _, h⟩ <;> exact ⟨_, h⟩
theorem Sm.free {F F' : Hp} {a : Addr} (s : Sm F F') (h : F' a = none) : F a = none := by
  cases q : F a with
  | none => rfl
  | some o => obtain ⟨u, z⟩ := s.some q; rw [h] at z; cases z
theorem Sm.seq {K : PySem.W.Frag} {F F' : Hp} {a : Addr} {xs : List V} (s : Sm F F') (h : SqL K F a xs) : SqL K F' a xs := by
  rcases h with (h | ⟨o, h⟩) | h
  · exact .inl (.inl (s.at h))
  · exact .inl (.inr ⟨o, s.at h⟩)
  · exact .inr h
mutual
inductive Rp (K : PySem.W.Frag) (F : Hp) : V → D → Prop
  | non : Rp K F .non .non
  | bl (b : Bool) : Rp K F (.bl b) (.bl b)
  | int (i : Int) : Rp K F (.int i) (.int i)
  | str (x : Str) : Rp K F (.str x) (.str x)
  | lst {a : Addr} {xs : List V} {ds : List D} : F a = some (.lst xs) → RpL K F xs ds → Rp K F (.ref a) (.lst ds)
  | scr {a : Addr} {ns : List Int} : SqL K F a (ns.map V.int) → Rp K F (.ref a) (.scr ns)
  | tup {a : Addr} {xs : List V} {ds : List D} : SqT K F a xs → RpL K F xs ds → Rp K F (.ref a) (.tup ds)
  | gup {a : Addr} {xs : List V} {ds : List D} : SqT K F a xs → GoodT F a → RpL K F xs ds → Rp K F (.ref a) (.gup ds)
  | dic {a : Addr} {kvs : List (Key × V)} {es : List (Key × D)} : Rd F a (.dK kvs) → RpK K F kvs es → Rp K F (.ref a) (.dic es)
  | hup {a : Addr} {xs : List V} {ds : List D} : F a = some (.tup xs) → RpL K F xs ds → Rp K F (.ref a) (.hup ds)
  | dit {a : Addr} {kvs : List (List Key × V)} {es : List (List Key × D)} : Rd F a (.dT kvs) → RpT K F kvs es → Rp K F (.ref a) (.dit es)
  | obj {a C dx : Addr} {n : Str} {vs : List (Str × V)} {fs : List (Str × D)} : PySem.W.nsIn K mainGlobals n = some (some (.ref C)) → F a = some (.ins C dx vs) → F dx = some (.own a) → RpF K F vs fs → Rp K F (.ref a) (.obj n fs)
  | cls {C : Addr} {n : Str} : PySem.W.nsIn K mainGlobals n = some (some (.ref C)) → Rp K F (.ref C) (.cls n)
inductive RpL (K : PySem.W.Frag) (F : Hp) : List V → List D → Prop
  | nil : RpL K F [] []
  | cons {v : V} {vs : List V} {d : D} {ds : List D} : Rp K F v d → RpL K F vs ds → RpL K F (v :: vs) (d :: ds)
inductive RpK (K : PySem.W.Frag) (F : Hp) : List (Key × V) → List (Key × D) → Prop
  | nil : RpK K F [] []
  | cons {k : Key} {v : V} {vs : List (Key × V)} {d : D} {ds : List (Key × D)} : Rp K F v d → RpK K F vs ds → RpK K F ((k, v) :: vs) ((k, d) :: ds)
inductive RpT (K : PySem.W.Frag) (F : Hp) : List (List Key × V) → List (List Key × D) → Prop
  | nil : RpT K F [] []
  | cons {k : List Key} {v : V} {vs : List (List Key × V)} {d : D} {ds : List (List Key × D)} : Rp K F v d → RpT K F vs ds → RpT K F ((k, v) :: vs) ((k, d) :: ds)
inductive RpF (K : PySem.W.Frag) (F : Hp) : List (Str × V) → List (Str × D) → Prop
  | nil : RpF K F [] []
  | cons {k : Str} {v : V} {vs : List (Str × V)} {d : D} {ds : List (Str × D)} : Rp K F v d → RpF K F vs ds → RpF K F ((k, v) :: vs) ((k, d) :: ds)
end
variable {K : PySem.W.Frag}
theorem seqT {H H' : Hp} {a : Addr} {xs : List V} (e : Sm H H') (h : SqT K H a xs) : SqT K H' a xs := by
  rcases h with (h | ⟨o, h⟩) | h
  · exact .inl (.inl (e.at h))
  · exact .inl (.inr ⟨o, e.at h⟩)
  · exact .inr h
mutual
theorem Rp.mono {F F' : Hp} (s : Sm F F') : ∀ {v : V} {d : D}, Rp K F v d → Rp K F' v d
  | _, _, .non => .non
  | _, _, .bl b => .bl b
  | _, _, .int i => .int i
  | _, _, .str x => .str x
  | _, _, .lst h r => .lst (s.at h) (RpL.mono s r)
  | _, _, .scr h => .scr (s.seq h)
  | _, _, .tup h r => .tup (seqT s h) (RpL.mono s r)
  | _, _, .gup h g r => .gup (seqT s h) (let ⟨o, u, e, z⟩ := g; ⟨o, u, s.at e, z⟩) (RpL.mono s r)
  | _, _, .dic h r => .dic (s.rd h) (RpK.mono s r)
  | _, _, .hup h r => .hup (s.at h) (RpL.mono s r)
  | _, _, .dit h r => .dit (s.rd h) (RpT.mono s r)
  | _, _, .obj n h g r => .obj n (s.at h) (s.at g) (RpF.mono s r)
  | _, _, .cls n => .cls n
theorem RpL.mono {F F' : Hp} (s : Sm F F') : ∀ {v : List V} {d : List D}, RpL K F v d → RpL K F' v d
  | _, _, .nil => .nil
  | _, _, .cons h r => .cons (Rp.mono s h) (RpL.mono s r)
theorem RpK.mono {F F' : Hp} (s : Sm F F') : ∀ {v : List (Key × V)} {d : List (Key × D)}, RpK K F v d → RpK K F' v d
  | _, _, .nil => .nil
  | _, _, .cons h r => .cons (Rp.mono s h) (RpK.mono s r)
theorem RpT.mono {F F' : Hp} (s : Sm F F') : ∀ {v : List (List Key × V)} {d : List (List Key × D)}, RpT K F v d → RpT K F' v d
  | _, _, .nil => .nil
  | _, _, .cons h r => .cons (Rp.mono s h) (RpT.mono s r)
theorem RpF.mono {F F' : Hp} (s : Sm F F') : ∀ {v : List (Str × V)} {d : List (Str × D)}, RpF K F v d → RpF K F' v d
  | _, _, .nil => .nil
  | _, _, .cons h r => .cons (Rp.mono s h) (RpF.mono s r)
end
theorem RpL.length {F : Hp} : ∀ {v : List V} {d : List D}, RpL K F v d → v.length = d.length
  | _, _, .nil => rfl
  | _, _, .cons _ r => by rw [List.length_cons, List.length_cons, r.length]
theorem RpL.get {F : Hp} : ∀ {v : List V} {d : List D} {i : Nat} {x : D}, RpL K F v d → d[i]? = some x → ∃ y, v[i]? = some y ∧ Rp K F y x
  | _, _, i, x, .nil, e => by simp at e
  | _, _, 0, x, .cons h _, e => by simp at e; subst e; exact ⟨_, rfl, h⟩
  | _, _, i + 1, x, .cons _ r, e => by
    obtain ⟨y, h1, h2⟩ := RpL.get (i := i) (x := x) r (by simpa using e)
    exact ⟨y, by simpa using h1, h2⟩
theorem RpL.app {F : Hp} : ∀ {v u : List V} {d c : List D}, RpL K F v d → RpL K F u c → RpL K F (v ++ u) (d ++ c)
  | _, _, _, _, .nil, s => s
  | _, _, _, _, .cons h r, s => .cons h (r.app s)
theorem RpL.one {F : Hp} {v : V} {d : D} (h : Rp K F v d) : RpL K F [v] [d] := .cons h .nil
theorem RpL.set {F : Hp} {v : V} {d : D} (h : Rp K F v d) : ∀ {vs : List V} {ds : List D} (i : Nat), RpL K F vs ds → RpL K F (vs.set i v) (ds.set i d)
  | _, _, _, .nil => .nil
  | _, _, 0, .cons _ r => .cons h r
  | _, _, i + 1, .cons q r => .cons q (RpL.set h i r)
theorem RpL.take {F : Hp} : ∀ {vs : List V} {ds : List D} (n : Nat), RpL K F vs ds → RpL K F (vs.take n) (ds.take n)
  | _, _, 0, _ => .nil
  | _, _, _ + 1, .nil => .nil
  | _, _, n + 1, .cons h r => .cons h (RpL.take n r)
theorem RpL.drop {F : Hp} : ∀ {vs : List V} {ds : List D} (n : Nat), RpL K F vs ds → RpL K F (vs.drop n) (ds.drop n)
  | _, _, 0, r => r
  | _, _, _ + 1, .nil => .nil
  | _, _, n + 1, .cons h r => RpL.drop n r
theorem RpL.ints {F : Hp} : ∀ ns : List Int, RpL K F (ns.map V.int) (ns.map D.int)
  | [] => .nil
  | n :: r => .cons (.int n) (RpL.ints r)
theorem RpL.ofInts {F : Hp} : ∀ {ns : List Int} {vs : List V}, RpL K F vs (ns.map D.int) → vs = ns.map V.int
  | [], _, .nil => rfl
  | n :: r, _, .cons (.int _) q => by rw [List.map_cons, RpL.ofInts q]
theorem RpL.strs {F : Hp} : ∀ ns : List Str, RpL K F (ns.map V.str) (ns.map D.str)
  | [] => .nil
  | n :: r => .cons (.str n) (RpL.strs r)
theorem RpL.ofStrs {F : Hp} : ∀ {ns : List Str} {vs : List V}, RpL K F vs (ns.map D.str) → vs = ns.map V.str
  | [], _, .nil => rfl
  | n :: r, _, .cons (.str _) q => by rw [List.map_cons, RpL.ofStrs q]
theorem RpL.ofBls {F : Hp} : ∀ {ns : List Bool} {vs : List V}, RpL K F vs (ns.map D.bl) → vs = ns.map V.bl
  | [], _, .nil => rfl
  | n :: r, _, .cons (.bl _) q => by rw [List.map_cons, RpL.ofBls q]
/-- the tables of code objects that lambdas are written in; the functions that a def was handed (their code objects, what they hold) -/
structure FnI where
  fn : Addr
  fc : Addr
  fq : Str
  caps : List V
  dat : List D
class TabP where
  T : List (Addr × Str)
  fns : Nat → FnI
variable [TabP]
/-- the object at p is owned: it stands outside F, its items in F -/
def Ob (K : PySem.W.Frag) (F H : Hp) (p : Addr) (d : D) : Prop := F p = none ∧ match d with
  | .lst ds => ∃ xs, H p = some (.lst xs) ∧ RpL K F xs ds
  | .dic es => ∃ kvs, H p = some (.dK kvs) ∧ RpK K F kvs es
  | .dit es => ∃ kvs, H p = some (.dT kvs) ∧ RpT K F kvs es
  | .obj n fs => ∃ o, H p = some o ∧ ∃ C dx vs, o = .ins C dx vs ∧ PySem.W.nsIn K mainGlobals n = some (some (.ref C)) ∧ F dx = some (.own p) ∧ RpF K F vs fs
  | _ => False
theorem Ob.has {F H : Hp} {p : Addr} {d : D} (h : Ob K F H p d) : ∃ o, H p = some o := by
  obtain ⟨_, h⟩ := h
  cases d <;> first | exact h.elim | (obtain ⟨_, e, _⟩ := h; exact ⟨_, e⟩)
theorem Ob.keep {F F' H H' : Hp} {p : Addr} {d : D} (h : Ob K F H p d) (s : Sm F F') (e : H' p = H p) (n : F' p = none) : Ob K F' H' p d := by
  obtain ⟨_, h⟩ := h
  refine ⟨n, ?_⟩
  cases d <;> first | exact h.elim | skip
  · obtain ⟨xs, e1, r⟩ := h
    exact ⟨xs, by rw [e]; exact e1, r.mono s⟩
  · obtain ⟨xs, e1, r⟩ := h
    exact ⟨xs, by rw [e]; exact e1, r.mono s⟩
  · obtain ⟨xs, e1, r⟩ := h
    exact ⟨xs, by rw [e]; exact e1, r.mono s⟩
  · obtain ⟨o, e1, C, dx, vs, e2, nn, g, r⟩ := h
    exact ⟨o, by rw [e]; exact e1, C, dx, vs, e2, nn, s.at g, r.mono s⟩
/-- an owned object, frozen -/
theorem Ob.freeze {F H : Hp} {p : Addr} {d : D} {o : HO} (h : Ob K F H p d) (e : H p = some o) : Rp K (upd F p o) (.ref p) d := by
  obtain ⟨n, h⟩ := h
  have s : Sm F (upd F p o) := .of fun b x q => by rw [upd_ne (ne_of_none q n)]; exact q
  cases d <;> first | exact h.elim | skip
  · obtain ⟨xs, e1, r⟩ := h
    rw [e] at e1; cases e1
    exact .lst upd_same (r.mono s)
  · obtain ⟨xs, e1, r⟩ := h
    rw [e] at e1; cases e1
    exact .dic (.inl upd_same) (r.mono s)
  · obtain ⟨xs, e1, r⟩ := h
    rw [e] at e1; cases e1
    exact .dit (.inl upd_same) (r.mono s)
  · obtain ⟨o1, e1, C, dx, vs, e2, nn, g, r⟩ := h
    rw [e] at e1; cases e1; subst e2
    exact .obj nn upd_same (s.at g) (r.mono s)
/-- a slot: nothing known, frozen data, an owned object, one that a caller owns -/
inductive Sl where
  | no | fz (d : D) | ow (d : D) | io (d : D) | fn (k : Nat)
abbrev Env := List Sl
def SlOk (K : PySem.W.Frag) (F H : Hp) (v : Option V) (s : Sl) (o : Option Addr) : Prop := match s with
  | .no => o = none
  | .fz d => o = none ∧ ∃ x, v = some x ∧ Rp K F x d
  | .ow d => ∃ p, o = some p ∧ v = some (.ref p) ∧ Ob K F H p d
  | .io d => ∃ p, o = some p ∧ v = some (.ref p) ∧ Ob K F H p d
  | .fn k => o = none ∧ v = some (.ref (TabP.fns k).fn) ∧ H (TabP.fns k).fc = some (LamX.CodeO (TabP.fns k).fc (TabP.fns k).fq) ∧ F (TabP.fns k).fc = none ∧ RpL K F (TabP.fns k).caps (TabP.fns k).dat
/-- no table, no code object -/
def Pl (o : HO) : Prop := (∀ ps, o ≠ .tbl ps) ∧ ∀ f, o ≠ .ext f
/-- all tracked tuples are frozen; no table is; the tables hold what they should -/
structure Tp (F H : Hp) : Prop where
  tup : ∀ b xs, H b = some (.tup xs) → F b = some (.tup xs)
  nt : ∀ b o, F b = some o → Pl o
  tb : LamX.Tabs TabP.T H
/-- an object that may be written without harm to a table -/
def NoTab (H : Hp) (p : Addr) : Prop := ∀ o, H p = some o → Pl o
theorem NoTab.new {H : Hp} {p : Addr} (h : H p = none) : NoTab H p := fun o e => by rw [h] at e; cases e
theorem tabs_upd {H : Hp} {p : Addr} {o : HO} {T : List (Addr × Str)} (t : LamX.Tabs T H) (h : NoTab H p) : LamX.Tabs T (upd H p o) := fun q hq => by
  obtain ⟨ps, h1, h2, h3⟩ := t q hq
  refine ⟨ps, by rw [upd_ne fun z => (h _ (by rw [← z]; exact h1)).1 ps rfl]; exact h1, h2, fun pos cv hc => ?_⟩
  obtain ⟨c, e1, e2⟩ := h3 pos cv hc
  exact ⟨c, e1, by rw [upd_ne fun z => (h _ (by rw [← z]; exact e2)).2 _ rfl]; exact e2⟩
structure WOk (K : PySem.W.Frag) (F0 Gd : Hp) (ios : List (Option Addr)) (F H : Hp) (σ : L2.St) (e : Env) (os : List (Option Addr)) : Prop where
  fh : Same F H
  f0 : Sm F0 F
  gd : ∀ a o, Gd a = some o → H a = some o ∧ F a = none ∧ ∀ i : Nat, os[i]? ≠ some (some a)
  le : σ.length = e.length
  lo : os.length = e.length
  sl : ∀ (i : Nat) s, e[i]? = some s → SlOk K F H (σ[i]?.join) s (os[i]?.join)
  ds : ∀ (i j : Nat) p, os[i]? = some (some p) → os[j]? = some (some p) → i = j
  io : ∀ (i : Nat) p, ios[i]? = some (some p) → os[i]? = some (some p) ∧ ∃ d, e[i]? = some (.io d)
  tp : Tp F H
  ng : ∀ a ps, Gd a ≠ some (.tbl ps)
/-- nothing that stood has changed but tables; what is new may be frozen -/
structure Ext (F H F' H' : Hp) : Prop where
  f : Sm F F'
  h : ∀ a o, H a = some o → F a = none → (∀ ps, o ≠ .tbl ps) → H' a = some o
  fh : Same F' H'
  n : ∀ a o, H a = some o → F a = none → (∀ ps, o ≠ .tbl ps) → F' a = none
  tp : Tp F H → Tp F' H'
theorem Ext.refl {F H : Hp} (s : Same F H) : Ext F H F H := ⟨Sm.refl _, fun _ _ h _ _ => h, s, fun _ _ _ h _ => h, id⟩
theorem Ext.trans {F H F1 H1 F2 H2 : Hp} (a : Ext F H F1 H1) (b : Ext F1 H1 F2 H2) : Ext F H F2 H2 :=
  ⟨a.f.trans b.f, fun c o h n k => b.h c o (a.h c o h n k) (a.n c o h n k) k, b.fh, fun c o h n k => b.n c o (a.h c o h n k) (a.n c o h n k) k, fun z => b.tp (a.tp z)⟩
theorem Same.new {H : Hp} {p : Addr} {o : HO} (h : H p = none) : Same H (upd H p o) := fun b x e => by
  rw [upd_ne (ne_of_none e h)]; exact e
theorem same_upd2 {F H : Hp} {p : Addr} {o : HO} (s : Same F H) : Same (upd F p o) (upd H p o) := fun b x e => by
  by_cases q : b = p
  · subst q; rw [upd_same] at e ⊢; exact e
  · rw [upd_ne q] at e ⊢; exact s b x e
/-- a new object, frozen at once -/
theorem Ext.new {F H : Hp} {p : Addr} {o : HO} (s : Same F H) (h : H p = none) (ne : Pl o := by exact ⟨fun _ z => (nomatch z), fun _ z => (nomatch z)⟩) : Ext F H (upd F p o) (upd H p o) :=
  ⟨.of (Same.new (s.free h)), fun a x e _ _ => Same.new h a x e, same_upd2 s, fun a x e n _ => by rw [upd_ne (ne_of_none e h)]; exact n, fun z => ⟨fun b xs q => by
    by_cases y : b = p
    · subst y; rw [upd_same] at q ⊢; exact q
    · rw [upd_ne y] at q ⊢; exact z.tup b xs q, fun b ps q => by
    by_cases y : b = p
    · subst y; rw [upd_same] at q; cases q; exact ne
    · rw [upd_ne y] at q; exact z.nt b ps q, tabs_upd z.tb (.new h)⟩⟩
theorem Tp.lay {F H : Hp} {p : Addr} {o : HO} (t : Tp F H) (h : ∀ xs, o ≠ .tup xs) (k : NoTab H p) : Tp F (upd H p o) := ⟨fun b xs q => by
  by_cases y : b = p
  · subst y; rw [upd_same] at q; cases q; exact absurd rfl (h xs)
  · rw [upd_ne y] at q; exact t.tup b xs q, t.nt, tabs_upd t.tb k⟩
theorem Ob.noTab {F H : Hp} {p : Addr} {d : D} (h : Ob K F H p d) : NoTab H p := fun o e => by
  obtain ⟨_, h⟩ := h
  cases d <;> first | exact h.elim | skip
  · obtain ⟨_, e1, _⟩ := h; rw [e] at e1; cases e1; exact ⟨fun _ z => (nomatch z), fun _ z => (nomatch z)⟩
  · obtain ⟨_, e1, _⟩ := h; rw [e] at e1; cases e1; exact ⟨fun _ z => (nomatch z), fun _ z => (nomatch z)⟩
  · obtain ⟨_, e1, _⟩ := h; rw [e] at e1; cases e1; exact ⟨fun _ z => (nomatch z), fun _ z => (nomatch z)⟩
  · obtain ⟨_, e1, _, _, _, e2, _⟩ := h; rw [e] at e1; cases e1; subst e2; exact ⟨fun _ z => (nomatch z), fun _ z => (nomatch z)⟩
theorem Ob.noTup {F H : Hp} {p : Addr} {d : D} {o : HO} (h : Ob K F H p d) (e : H p = some o) : ∀ xs, o ≠ .tup xs := fun xs z => by
  subst z
  obtain ⟨_, h⟩ := h
  cases d <;> first | exact h.elim | (obtain ⟨_, e1, _⟩ := h; rw [e] at e1; cases e1; done) | (obtain ⟨_, e1, _, _, _, e2, _⟩ := h; rw [e] at e1; cases e1; cases e2)
theorem Tp.frz {F H : Hp} {p : Addr} {u : HO} (t : Tp F H) (n : F p = none) (ne : Pl u := by exact ⟨fun _ z => (nomatch z), fun _ z => (nomatch z)⟩) : Tp (upd F p u) H := ⟨fun b xs q => by
  have := t.tup b xs q
  rw [upd_ne (ne_of_none this n)]; exact this, fun b ps q => by
  by_cases y : b = p
  · subst y; rw [upd_same] at q; cases q; exact ne
  · rw [upd_ne y] at q; exact t.nt b ps q, t.tb⟩
section
variable {F0 Gd F H F' H' : Hp} {ios os : List (Option Addr)} {σ : L2.St} {e : Env}
theorem WOk.own {i : Nat} {p : Addr} (W : WOk K F0 Gd ios F H σ e os) (h : os[i]? = some (some p)) : ∃ d, Ob K F H p d := by
  have hi : i < e.length := by rw [← W.lo]; exact (List.getElem?_eq_some_iff.mp h).1
  have q := W.sl i e[i] (List.getElem?_eq_getElem hi)
  rw [h] at q
  cases z : e[i] with
  | no => rw [z] at q; cases q
  | fn kf => rw [z] at q; exact nomatch q.1
  | fz d => rw [z] at q; exact nomatch q.1
  | ow d => rw [z] at q; obtain ⟨p', e1, _, ob⟩ := q; cases e1; exact ⟨d, ob⟩
  | io d => rw [z] at q; obtain ⟨p', e1, _, ob⟩ := q; cases e1; exact ⟨d, ob⟩
theorem WOk.notOwn {p : Addr} (W : WOk K F0 Gd ios F H σ e os) (h : H p = none) : ∀ i : Nat, os[i]? ≠ some (some p) := fun i q => by
  obtain ⟨d, ob⟩ := W.own q
  obtain ⟨o, z⟩ := ob.has
  rw [h] at z; cases z
theorem WOk.noGd {p : Addr} (W : WOk K F0 Gd ios F H σ e os) (h : H p = none) : Gd p = none := by
  cases q : Gd p with
  | none => rfl
  | some o => rw [(W.gd p o q).1] at h; cases h
theorem SlOk.ext {v : Option V} {s : Sl} {o : Option Addr} (h : SlOk K F H v s o) (x : Ext F H F' H') : SlOk K F' H' v s o := by
  have keep : ∀ p d, Ob K F H p d → Ob K F' H' p d := fun p d ob => by
    obtain ⟨u, hu⟩ := ob.has
    exact ob.keep x.f (by rw [hu]; exact x.h _ _ hu ob.1 (ob.noTab _ hu).1) (x.n _ _ hu ob.1 (ob.noTab _ hu).1)
  cases s with
  | no => exact h
  | fn kf => obtain ⟨a, b, c, n, r⟩ := h; exact ⟨a, b, x.h _ _ c n LamX.codeO_ne, x.n _ _ c n LamX.codeO_ne, r.mono x.f⟩
  | fz d => obtain ⟨a, y, b, r⟩ := h; exact ⟨a, y, b, r.mono x.f⟩
  | ow d => obtain ⟨p, a, b, ob⟩ := h; exact ⟨p, a, b, keep _ _ ob⟩
  | io d => obtain ⟨p, a, b, ob⟩ := h; exact ⟨p, a, b, keep _ _ ob⟩
theorem WOk.ext (W : WOk K F0 Gd ios F H σ e os) (x : Ext F H F' H') : WOk K F0 Gd ios F' H' σ e os where
  fh := x.fh
  f0 := W.f0.trans x.f
  gd := fun a o h => let ⟨h1, h2, h3⟩ := W.gd a o h; ⟨x.h _ _ h1 h2 (fun ps z => W.ng a ps (z ▸ h)), x.n _ _ h1 h2 (fun ps z => W.ng a ps (z ▸ h)), h3⟩
  le := W.le
  lo := W.lo
  sl := fun i s h => (W.sl i s h).ext x
  ds := W.ds
  io := W.io
  tp := x.tp W.tp
  ng := W.ng
end
inductive L where
  | v (d : D) | s (i : Nat)
def rdS : Option Sl → Option D
  | some (.fz d) => some d
  | some (.ow d) => some d
  | some (.io d) => some d
  | _ => none
/-- what a late value holds now -/
def wk : D → D
  | .gup ds => .tup ds
  | .hup ds => .tup ds
  | d => d
theorem Rp.wk {F : Hp} {x : V} {d : D} (h : Rp K F x d) : Rp K F x (wk d) := by
  cases h with
  | gup h _ r => exact .tup h r
  | hup h r => exact .tup (.inl (.inl h)) r
  | non => exact .non
  | bl b => exact .bl b
  | int i => exact .int i
  | str i => exact .str i
  | lst h r => exact .lst h r
  | scr h => exact .scr h
  | tup h r => exact .tup h r
  | dic h r => exact .dic h r
  | dit h r => exact .dit h r
  | obj n h g r => exact .obj n h g r
  | cls n => exact .cls n
theorem Ob.wk {F H : Hp} {p : Addr} {d : D} (h : Ob K F H p d) : Ob K F H p (wk d) := by
  cases d <;> first | exact h | exact h.2.elim
def rdR (e : Env) : L → Option D
  | .v d => some d
  | .s i => rdS e[i]?
def rd (e : Env) (l : L) : Option D := (rdR e l).map wk
/-- a late value taken: an owned object is frozen by it -/
def tk (e : Env) : L → Option (D × Env)
  | .v d => some (d, e)
  | .s i => match e[i]? with
    | some (.fz d) => some (d, e)
    | some (.ow d) => some (d, e.set i (.fz d))
    | _ => none
def LOk (K : PySem.W.Frag) (F : Hp) (σ : L2.St) (x : V) : L → Prop
  | .v d => Rp K F x d
  | .s i => σ[i]? = some (some x)
theorem LOk.mono {F F' : Hp} {σ : L2.St} {x : V} {l : L} (h : LOk K F σ x l) (s : Sm F F') : LOk K F' σ x l := by
  cases l with
  | v d => exact Rp.mono s h
  | s i => exact h
/-- readable now -/
def Bw (K : PySem.W.Frag) (F H : Hp) (x : V) (d : D) : Prop := Rp K F x d ∨ ∃ p, x = .ref p ∧ Ob K F H p d
section
variable {F0 Gd F H F' H' : Hp} {ios os : List (Option Addr)} {σ : L2.St} {e : Env}
theorem WOk.bwR {x : V} {l : L} {d : D} (W : WOk K F0 Gd ios F H σ e os) (h : LOk K F σ x l) (r : rdR e l = some d) : Bw K F H x d := by
  cases l with
  | v c => cases r; exact .inl h
  | s i =>
    have h : σ[i]? = some (some x) := h
    have r : rdS e[i]? = some d := r
    cases q : e[i]? with
    | none => rw [q] at r; cases r
    | some s =>
      have z := W.sl i s q
      rw [h] at z
      rw [q] at r
      cases s with
      | no => cases r
      | fn kf => cases r
      | fz c => cases r; obtain ⟨_, y, e1, r⟩ := z; cases e1; exact .inl r
      | ow c => cases r; obtain ⟨p, _, e1, ob⟩ := z; cases e1; exact .inr ⟨p, rfl, ob⟩
      | io c => cases r; obtain ⟨p, _, e1, ob⟩ := z; cases e1; exact .inr ⟨p, rfl, ob⟩
theorem Bw.wk {x : V} {d : D} (h : Bw K F H x d) : Bw K F H x (wk d) := h.elim (fun h => .inl h.wk) fun ⟨p, e, h⟩ => .inr ⟨p, e, h.wk⟩
theorem WOk.bw {x : V} {l : L} {d : D} (W : WOk K F0 Gd ios F H σ e os) (h : LOk K F σ x l) (r : rd e l = some d) : Bw K F H x d := by
  unfold rd at r
  obtain ⟨c, h1, rfl⟩ := Option.map_eq_some_iff.mp r
  exact (W.bwR h h1).wk
theorem set_join {α : Type} {l : List (Option α)} {i : Nat} (hi : i < l.length) (a : Option α) : ((l.set i a)[i]?).join = a := by
  rw [List.getElem?_set_self hi]; rfl
/-- the slot i is filled anew: v, s, o; nothing else changes but what Ext allows -/
theorem WOk.put {i : Nat} {v : Option V} {s : Sl} {o : Option Addr} (W : WOk K F0 Gd ios F H σ e os) (hi : i < e.length) (hn : ∀ p, ios[i]? ≠ some (some p))
    (hs : SlOk K F H v s o) (ho : ∀ p, o = some p → Gd p = none ∧ ∀ j : Nat, j ≠ i → os[j]? ≠ some (some p)) : WOk K F0 Gd ios F H (σ.set i v) (e.set i s) (os.set i o) where
  fh := W.fh
  f0 := W.f0
  gd := fun a u h => by
    obtain ⟨h1, h2, h3⟩ := W.gd a u h
    refine ⟨h1, h2, fun j q => ?_⟩
    by_cases e : i = j
    · subst e
      rw [List.getElem?_set_self (by rw [W.lo]; exact hi)] at q
      have := (ho a (Option.some.inj q)).1
      rw [h] at this; cases this
    · rw [List.getElem?_set_ne e] at q
      exact h3 j q
  le := by rw [List.length_set, List.length_set]; exact W.le
  lo := by rw [List.length_set, List.length_set]; exact W.lo
  sl := fun j t h => by
    by_cases z : i = j
    · subst z
      rw [List.getElem?_set_self hi] at h
      cases h
      rw [set_join (by rw [W.le]; exact hi), set_join (by rw [W.lo]; exact hi)]
      exact hs
    · rw [List.getElem?_set_ne z] at h
      rw [List.getElem?_set_ne z, List.getElem?_set_ne z]
      exact W.sl j t h
  ds := fun j k p h1 h2 => by
    by_cases z : i = j
    · by_cases y : i = k
      · exact z.symm.trans y
      · subst z
        rw [List.getElem?_set_self (by rw [W.lo]; exact hi)] at h1
        rw [List.getElem?_set_ne y] at h2
        exact absurd h2 ((ho p (Option.some.inj h1)).2 k (fun q => y q.symm))
    · rw [List.getElem?_set_ne z] at h1
      by_cases y : i = k
      · subst y
        rw [List.getElem?_set_self (by rw [W.lo]; exact hi)] at h2
        exact absurd h1 ((ho p (Option.some.inj h2)).2 j (fun q => z q.symm))
      · rw [List.getElem?_set_ne y] at h2
        exact W.ds j k p h1 h2
  io := fun j p h => by
    have z : i ≠ j := fun z => by subst z; exact hn p h
    rw [List.getElem?_set_ne z, List.getElem?_set_ne z]
    exact W.io j p h
  tp := W.tp
  ng := W.ng
theorem WOk.noIo {i : Nat} {s : Sl} (W : WOk K F0 Gd ios F H σ e os) (h : e[i]? = some s) (hs : ∀ d, s ≠ .io d) : ∀ p, ios[i]? ≠ some (some p) := fun p q => by
  obtain ⟨_, d, z⟩ := W.io i p q
  rw [h] at z; cases z; exact hs d rfl
/-- the owned object of the slot i, frozen -/
theorem WOk.freeze {i : Nat} {d : D} {x : V} (W : WOk K F0 Gd ios F H σ e os) (h : e[i]? = some (.ow d)) (hx : σ[i]? = some (some x)) :
    ∃ F' os', WOk K F0 Gd ios F' H σ (e.set i (.fz d)) os' ∧ Sm F F' ∧ Rp K F' x d := by
  have z := W.sl i _ h
  rw [hx] at z
  obtain ⟨p, e1, e2, ob⟩ := z
  cases e2
  obtain ⟨u, hu⟩ := ob.has
  have hi : i < e.length := (List.getElem?_eq_some_iff.mp h).1
  have hio : i < os.length := by rw [W.lo]; exact hi
  have ep : os[i]? = some (some p) := by
    cases q : os[i]? with
    | none => rw [q] at e1; cases e1
    | some y => rw [q] at e1; cases y with
      | none => cases e1
      | some y => cases e1; rfl
  have s : Sm F (upd F p u) := .of (Same.new ob.1)
  have rp : Rp K (upd F p u) (.ref p) d := ob.freeze hu
  have W1 : WOk K F0 Gd ios (upd F p u) H σ (e.set i (.fz d)) (os.set i none) := by
    refine ⟨fun b o q => ?_, W.f0.trans s, fun a o q => ?_, by rw [List.length_set]; exact W.le, by rw [List.length_set, List.length_set]; exact W.lo, fun j t q => ?_, fun j k b q1 q2 => ?_, fun j b q => ?_, W.tp.frz ob.1 (ob.noTab _ hu), W.ng⟩
    · by_cases y : b = p
      · subst y; rw [upd_same] at q; cases q; exact hu
      · rw [upd_ne y] at q; exact W.fh b o q
    · obtain ⟨h1, h2, h3⟩ := W.gd a o q
      have y : a ≠ p := fun y => by subst y; exact h3 i ep
      refine ⟨h1, by rw [upd_ne y]; exact h2, fun j q' => ?_⟩
      by_cases w : i = j
      · subst w; rw [List.getElem?_set_self hio] at q'; cases q'
      · rw [List.getElem?_set_ne w] at q'; exact h3 j q'
    · by_cases w : i = j
      · subst w
        rw [List.getElem?_set_self hi] at q
        cases q
        rw [set_join hio, hx]
        exact ⟨rfl, _, rfl, rp⟩
      · rw [List.getElem?_set_ne w] at q
        rw [List.getElem?_set_ne w]
        have z := W.sl j t q
        have keep : ∀ b c, os[j]?.join = some b → Ob K F H b c → Ob K (upd F p u) H b c := fun b c hb ob' => by
          refine ob'.keep s rfl ?_
          have y : b ≠ p := fun y => by
            subst y
            have hb' : os[j]? = some (some b) := by
              cases q : os[j]? with
              | none => rw [q] at hb; cases hb
              | some y => rw [q] at hb; cases y with
                | none => cases hb
                | some y => cases hb; rfl
            exact w (W.ds i j b ep hb')
          rw [upd_ne y]; exact ob'.1
        cases t with
        | no => exact z
        | fn kf => obtain ⟨a1, b1, c, n, r⟩ := z; exact ⟨a1, b1, c, by rw [upd_ne fun y => (ob.noTab _ (by rw [← y]; exact c)).2 _ rfl]; exact n, r.mono s⟩
        | fz c => obtain ⟨a1, y, b1, r⟩ := z; exact ⟨a1, y, b1, r.mono s⟩
        | ow c => obtain ⟨b, a1, b1, ob'⟩ := z; exact ⟨b, a1, b1, keep _ _ a1 ob'⟩
        | io c => obtain ⟨b, a1, b1, ob'⟩ := z; exact ⟨b, a1, b1, keep _ _ a1 ob'⟩
    · by_cases w : i = j
      · subst w; rw [List.getElem?_set_self hio] at q1; cases q1
      · by_cases w2 : i = k
        · subst w2; rw [List.getElem?_set_self hio] at q2; cases q2
        · rw [List.getElem?_set_ne w] at q1; rw [List.getElem?_set_ne w2] at q2
          exact W.ds j k b q1 q2
    · obtain ⟨h1, c, h2⟩ := W.io j b q
      have w : i ≠ j := fun w => by subst w; rw [h] at h2; cases h2
      rw [List.getElem?_set_ne w, List.getElem?_set_ne w]
      exact ⟨h1, c, h2⟩
  exact ⟨_, _, W1, s, rp⟩
theorem WOk.take {x : V} {l : L} {d : D} {e' : Env} (W : WOk K F0 Gd ios F H σ e os) (h : LOk K F σ x l) (r : tk e l = some (d, e')) :
    ∃ F' os', WOk K F0 Gd ios F' H σ e' os' ∧ Sm F F' ∧ Rp K F' x d := by
  cases l with
  | v c => cases r; exact ⟨F, os, W, Sm.refl _, h⟩
  | s i =>
    have h : σ[i]? = some (some x) := h
    simp only [tk] at r
    cases q : e[i]? with
    | none => rw [q] at r; cases r
    | some s =>
      rw [q] at r
      have z := W.sl i s q
      rw [h] at z
      cases s with
      | no => cases r
      | fn kf => cases r
      | fz c => cases r; obtain ⟨_, y, e1, r⟩ := z; cases e1; exact ⟨F, os, W, Sm.refl _, r⟩
      | ow c => cases r; exact W.freeze q h
      | io c => cases r
end
end Dk
set_option exponentiation.threshold 256
namespace Dk
open PySem PySem.Spec PyProof.Rows L2
variable [TabP]
abbrev ME := Env → Option (L × Env)
abbrev MN := Env → Option (D × Env)
abbrev MT := Env → Option (Bool × Env)
abbrev MA := Env → Option (List L × Env)
abbrev MG := D → Env → Option Env
abbrev MI := Env → Option (List D × Env)
/-- how a block ends: it goes on, returns (rn: a new object), breaks, continues -/
inductive Fl where
  | nx | rt (d : D) | rn (d : D) | bk | ct
abbrev MS := Env → Option (Fl × Env)
variable {K : PySem.W.Frag}
structure SimE (K : PySem.W.Frag) (t : TE) (m : ME) : Prop where
  run : ∀ {F0 Gd : Hp} {ios : List (Option Addr)} {F H : Hp} {σ : L2.St} {e : Env} {os : List (Option Addr)} {l : L} {e' : Env} {Q : VK}, WOk K F0 Gd ios F H σ e os → m e = some (l, e') →
    (∀ F' H' os' x, WOk K F0 Gd ios F' H' σ e' os' → Sm F F' → LOk K F' σ x l → Q x H') → t σ H Q
/-- p is a new owned object -/
structure Nw (K : PySem.W.Frag) (Gd F H : Hp) (os : List (Option Addr)) (p : Addr) (d : D) : Prop where
  ob : Ob K F H p d
  gd : Gd p = none
  no : ∀ i : Nat, os[i]? ≠ some (some p)
structure SimN (K : PySem.W.Frag) (t : TE) (m : MN) : Prop where
  run : ∀ {F0 Gd : Hp} {ios : List (Option Addr)} {F H : Hp} {σ : L2.St} {e : Env} {os : List (Option Addr)} {d : D} {e' : Env} {Q : VK}, WOk K F0 Gd ios F H σ e os → m e = some (d, e') →
    (∀ F' H' os' p, WOk K F0 Gd ios F' H' σ e' os' → Sm F F' → Nw K Gd F' H' os' p d → Q (.ref p) H') → t σ H Q
structure SimT (K : PySem.W.Frag) (t : TT) (m : MT) : Prop where
  run : ∀ {F0 Gd : Hp} {ios : List (Option Addr)} {F H : Hp} {σ : L2.St} {e : Env} {os : List (Option Addr)} {b : Bool} {e' : Env} {Q : Bool → Hp → Prop}, WOk K F0 Gd ios F H σ e os → m e = some (b, e') →
    (∀ F' H' os', WOk K F0 Gd ios F' H' σ e' os' → Sm F F' → Q b H') → t σ H Q
inductive LsOk (K : PySem.W.Frag) (F : Hp) (σ : L2.St) : List V → List L → Prop
  | nil : LsOk K F σ [] []
  | cons {x : V} {xs : List V} {l : L} {ls : List L} : LOk K F σ x l → LsOk K F σ xs ls → LsOk K F σ (x :: xs) (l :: ls)
theorem LsOk.mono {F F' : Hp} {σ : L2.St} (s : Sm F F') : ∀ {xs : List V} {ls : List L}, LsOk K F σ xs ls → LsOk K F' σ xs ls
  | _, _, .nil => .nil
  | _, _, .cons h r => .cons (h.mono s) (LsOk.mono s r)
structure SimA (K : PySem.W.Frag) (t : TA) (m : MA) : Prop where
  run : ∀ {F0 Gd : Hp} {ios : List (Option Addr)} {F H : Hp} {σ : L2.St} {e : Env} {os : List (Option Addr)} {ls : List L} {e' : Env} {Q : List V → Hp → Prop}, WOk K F0 Gd ios F H σ e os → m e = some (ls, e') →
    (∀ F' H' os' xs, WOk K F0 Gd ios F' H' σ e' os' → Sm F F' → LsOk K F' σ xs ls → Q xs H') → t σ H Q
/-- σ' is σ but for the slots js -/
def But (js : List Nat) (σ σ' : L2.St) : Prop := σ'.length = σ.length ∧ ∀ i : Nat, i ∉ js → σ'[i]? = σ[i]?
structure SimG (K : PySem.W.Frag) (t : TG) (js : List Nat) (m : MG) : Prop where
  run : ∀ {F0 Gd : Hp} {ios : List (Option Addr)} {F H : Hp} {σ : L2.St} {e : Env} {os : List (Option Addr)} {x : V} {d : D} {e' : Env} {Q : L2.St → Hp → Prop}, WOk K F0 Gd ios F H σ e os → Rp K F x d → m d e = some e' →
    (∀ F' H' σ' os', WOk K F0 Gd ios F' H' σ' e' os' → Sm F F' → But js σ σ' → Q σ' H') → t x σ H Q
/-- an iterator that goes through ds, whatever is laid meanwhile -/
def ItOk (K : PySem.W.Frag) (F : Hp) (J : It) (ds : List D) : Prop := ∀ F' H (i : Nat), Sm F F' → Same F' H →
  (∀ d, ds[i]? = some d → J.go i H ∧ ∀ x H', J.yld i H x H' → ∃ F2, Ext F' H F2 H' ∧ Rp K F2 x d) ∧ (i = ds.length → J.stop i H)
structure SimI (K : PySem.W.Frag) (t : TI) (m : MI) : Prop where
  run : ∀ {F0 Gd : Hp} {ios : List (Option Addr)} {F H : Hp} {σ : L2.St} {e : Env} {os : List (Option Addr)} {ds : List D} {e' : Env} {R : It → Hp → Prop}, WOk K F0 Gd ios F H σ e os → m e = some (ds, e') →
    (∀ F' H' os' J, WOk K F0 Gd ios F' H' σ e' os' → Sm F F' → ItOk K F' J ds → R J H') → t σ H R
/-- what stands behind a block -/
def FlOk (K : PySem.W.Frag) (F0 Gd : Hp) (ios : List (Option Addr)) (F : Hp) (e' : Env) (G : Ends) : Fl → Prop
  | .nx => ∀ F' H' σ' os', WOk K F0 Gd ios F' H' σ' e' os' → Sm F F' → G.nx σ' H'
  | .bk => ∀ F' H' σ' os', WOk K F0 Gd ios F' H' σ' e' os' → Sm F F' → G.bk σ' H'
  | .ct => ∀ F' H' σ' os', WOk K F0 Gd ios F' H' σ' e' os' → Sm F F' → G.ct σ' H'
  | .rt d => ∀ F' H' σ' os' x, WOk K F0 Gd ios F' H' σ' e' os' → Sm F F' → Rp K F' x d → G.rt x H'
  | .rn d => ∀ F' H' σ' os' p, WOk K F0 Gd ios F' H' σ' e' os' → Sm F F' → Ob K F' H' p d → Gd p = none → F0 p = none → (∀ i : Nat, ios[i]? ≠ some (some p)) → G.rt (.ref p) H'
theorem FlOk.mono {F0 Gd F F' : Hp} {ios : List (Option Addr)} {e' : Env} {G : Ends} {fl : Fl} (h : FlOk K F0 Gd ios F e' G fl) (s : Sm F F') : FlOk K F0 Gd ios F' e' G fl := by
  cases fl with
  | nx => exact fun F2 H2 σ2 os2 W q => h F2 H2 σ2 os2 W (s.trans q)
  | bk => exact fun F2 H2 σ2 os2 W q => h F2 H2 σ2 os2 W (s.trans q)
  | ct => exact fun F2 H2 σ2 os2 W q => h F2 H2 σ2 os2 W (s.trans q)
  | rt d => exact fun F2 H2 σ2 os2 x W q => h F2 H2 σ2 os2 x W (s.trans q)
  | rn d => exact fun F2 H2 σ2 os2 x W q => h F2 H2 σ2 os2 x W (s.trans q)
structure SimS (K : PySem.W.Frag) (t : TS) (m : MS) : Prop where
  run : ∀ {F0 Gd : Hp} {ios : List (Option Addr)} {F H : Hp} {σ : L2.St} {e : Env} {os : List (Option Addr)} {fl : Fl} {e' : Env} {G : Ends}, WOk K F0 Gd ios F H σ e os → m e = some (fl, e') →
    FlOk K F0 Gd ios F e' G fl → t G σ H
section
variable {F0 Gd F H F' H' : Hp} {ios os : List (Option Addr)} {σ : L2.St} {e : Env}
theorem Nw.freeze {p : Addr} {d : D} (n : Nw K Gd F H os p d) (W : WOk K F0 Gd ios F H σ e os) : ∃ F', WOk K F0 Gd ios F' H σ e os ∧ Sm F F' ∧ Rp K F' (.ref p) d := by
  obtain ⟨u, hu⟩ := n.ob.has
  have s : Sm F (upd F p u) := .of (Same.new n.ob.1)
  refine ⟨upd F p u, ⟨fun b o q => ?_, W.f0.trans s, fun a o q => ?_, W.le, W.lo, fun j t q => ?_, W.ds, W.io, W.tp.frz n.ob.1 (n.ob.noTab _ hu), W.ng⟩, s, n.ob.freeze hu⟩
  · by_cases y : b = p
    · subst y; rw [upd_same] at q; cases q; exact hu
    · rw [upd_ne y] at q; exact W.fh b o q
  · obtain ⟨h1, h2, h3⟩ := W.gd a o q
    have y : a ≠ p := fun y => by subst y; rw [n.gd] at q; cases q
    exact ⟨h1, by rw [upd_ne y]; exact h2, h3⟩
  · have z := W.sl j t q
    have keep : ∀ b c, os[j]?.join = some b → Ob K F H b c → Ob K (upd F p u) H b c := fun b c hb ob' => by
      refine ob'.keep s rfl ?_
      have y : b ≠ p := fun y => by
        subst y
        have hb' : os[j]? = some (some b) := by
          cases q : os[j]? with
          | none => rw [q] at hb; cases hb
          | some y => rw [q] at hb; cases y with
            | none => cases hb
            | some y => cases hb; rfl
        exact n.no j hb'
      rw [upd_ne y]; exact ob'.1
    cases t with
    | no => exact z
    | fn kf => obtain ⟨a1, b1, c, m, r⟩ := z; exact ⟨a1, b1, c, by rw [upd_ne fun y => (n.ob.noTab _ (by rw [← y]; exact c)).2 _ rfl]; exact m, r.mono s⟩
    | fz c => obtain ⟨a1, y, b1, r⟩ := z; exact ⟨a1, y, b1, r.mono s⟩
    | ow c => obtain ⟨b, a1, b1, ob'⟩ := z; exact ⟨b, a1, b1, keep _ _ a1 ob'⟩
    | io c => obtain ⟨b, a1, b1, ob'⟩ := z; exact ⟨b, a1, b1, keep _ _ a1 ob'⟩
end
def frzM (m : MN) : ME := fun e => (m e).map fun p => (.v p.1, p.2)
theorem sim_frz {t : TE} {m : MN} (h : SimN K t m) : SimE K t (frzM m) := ⟨fun {F0 Gd ios F H σ e os l e' Q} W hm q => by
  unfold frzM at hm
  cases z : m e with
  | none => rw [z] at hm; cases hm
  | some p =>
    rw [z] at hm; cases hm
    refine h.run W z fun F1 H1 os1 p1 W1 s1 n => ?_
    obtain ⟨F2, W2, s2, r⟩ := n.freeze W1
    exact q F2 H1 os1 _ W2 (s1.trans s2) r⟩
def varM (i : Nat) : ME := fun e => (rdS e[i]?).map fun _ => (.s i, e)
theorem sim_var (i : Nat) : SimE K (tVar i) (varM i) := ⟨fun {F0 Gd ios F H σ e os l e' Q} W hm q => by
  unfold varM at hm
  cases z : rdS e[i]? with
  | none => rw [z] at hm; cases hm
  | some d =>
    rw [z] at hm; cases hm
    cases y : e[i]? with
    | none => rw [y] at z; cases z
    | some s =>
      have k := W.sl i s y
      rw [y] at z
      have : ∃ x, σ[i]? = some (some x) := by
        have jn : ∀ x, σ[i]?.join = some x → σ[i]? = some (some x) := fun x h => by
          cases w : σ[i]? with
          | none => rw [w] at h; cases h
          | some o => rw [w] at h; cases o with
            | none => cases h
            | some o => cases h; rfl
        cases s with
        | no => cases z
        | fn kf => cases z
        | fz c => obtain ⟨_, x, h, _⟩ := k; exact ⟨x, jn x h⟩
        | ow c => obtain ⟨p, _, h, _⟩ := k; exact ⟨_, jn _ h⟩
        | io c => obtain ⟨p, _, h, _⟩ := k; exact ⟨_, jn _ h⟩
      obtain ⟨x, hx⟩ := this
      exact ⟨x, hx, q F H os x W (Sm.refl _) hx⟩⟩
def cM (d : D) : ME := fun e => some (.v d, e)
theorem sim_cst {v : V} {d : D} (h : ∀ F : Hp, Rp K F v d) : SimE K (tC v) (cM d) := ⟨fun {F0 Gd ios F H σ e os l e' Q} W hm q => by
  cases hm; exact q F H os v W (Sm.refl _) (h F)⟩
theorem sim_int (i : Int) : SimE K (tC (.int i)) (cM (.int i)) := sim_cst fun _ => .int i
theorem sim_str (i : Str) : SimE K (tC (.str i)) (cM (.str i)) := sim_cst fun _ => .str i
theorem sim_bl (i : Bool) : SimE K (tC (.bl i)) (cM (.bl i)) := sim_cst fun _ => .bl i
theorem sim_non : SimE K (tC .non) (cM .non) := sim_cst fun _ => .non
def Op2 (K : PySem.W.Frag) (r : R2) (op : D → D → Option D) : Prop := ∀ {F H : Hp} {x y : V} {dx dy d : D} {Q : VK}, Same F H → Bw K F H x dx → Bw K F H y dy → op dx dy = some d →
  (∀ F' H' v, Ext F H F' H' → Rp K F' v d → Q v H') → r x y H Q
def binM (op : D → D → Option D) (ma mb : ME) : ME := fun e => (ma e).bind fun p => (mb p.2).bind fun q => (rd q.2 p.1).bind fun a => (rd q.2 q.1).bind fun b => (op a b).map fun d => (.v d, q.2)
theorem sim_op {r : R2} {op : D → D → Option D} {ta tb : TE} {ma mb : ME} (ho : Op2 K r op) (ha : SimE K ta ma) (hb : SimE K tb mb) : SimE K (tOp r ta tb) (binM op ma mb) := ⟨fun {F0 Gd ios F H σ e os l e' Q} W hm q => by
  unfold binM at hm
  obtain ⟨⟨l1, e1⟩, h1, hm⟩ := Option.bind_eq_some_iff.mp hm
  obtain ⟨⟨l2, e2⟩, h2, hm⟩ := Option.bind_eq_some_iff.mp hm
  obtain ⟨a, ra, hm⟩ := Option.bind_eq_some_iff.mp hm
  obtain ⟨b, rb, hm⟩ := Option.bind_eq_some_iff.mp hm
  obtain ⟨d, hd, hm⟩ := Option.map_eq_some_iff.mp hm
  cases hm
  exact ha.run W h1 fun F1 H1 os1 x W1 s1 k1 => hb.run W1 h2 fun F2 H2 os2 y W2 s2 k2 =>
    ho W2.fh (W2.bw (k1.mono s2) ra) (W2.bw k2 rb) hd fun F3 H3 v x3 rp => q F3 H3 os2 v (W2.ext x3) ((s1.trans s2).trans x3.f) rp⟩
def Op1 (K : PySem.W.Frag) (r : V → Hp → VK → Prop) (op : D → Option D) : Prop := ∀ {F H : Hp} {x : V} {dx d : D} {Q : VK}, Same F H → Bw K F H x dx → op dx = some d →
  (∀ F' H' v, Ext F H F' H' → Rp K F' v d → Q v H') → r x H Q
def unM (op : D → Option D) (ma : ME) : ME := fun e => (ma e).bind fun p => (rd p.2 p.1).bind fun a => (op a).map fun d => (.v d, p.2)
theorem sim_un {r : V → Hp → VK → Prop} {op : D → Option D} {ta : TE} {ma : ME} (ho : Op1 K r op) (ha : SimE K ta ma) : SimE K (tUn r ta) (unM op ma) := ⟨fun {F0 Gd ios F H σ e os l e' Q} W hm q => by
  unfold unM at hm
  obtain ⟨⟨l1, e1⟩, h1, hm⟩ := Option.bind_eq_some_iff.mp hm
  obtain ⟨a, ra, hm⟩ := Option.bind_eq_some_iff.mp hm
  obtain ⟨d, hd, hm⟩ := Option.map_eq_some_iff.mp hm
  cases hm
  exact ha.run W h1 fun F1 H1 os1 x W1 s1 k1 => ho W1.fh (W1.bw k1 ra) hd fun F3 H3 v x3 rp => q F3 H3 os1 v (W1.ext x3) (s1.trans x3.f) rp⟩
/-- .. that make a new list or dict -/
def Op2N (K : PySem.W.Frag) (r : R2) (op : D → D → Option D) : Prop := ∀ {F H : Hp} {x y : V} {dx dy d : D} {Q : VK}, Same F H → Bw K F H x dx → Bw K F H y dy → op dx dy = some d →
  (∀ p o, H p = none → Ob K F (upd H p o) p d → Q (.ref p) (upd H p o)) → r x y H Q
def binN (op : D → D → Option D) (ma mb : ME) : MN := fun e => (ma e).bind fun p => (mb p.2).bind fun q => (rd q.2 p.1).bind fun a => (rd q.2 q.1).bind fun b => (op a b).map fun d => (d, q.2)
section
variable {F0 Gd F H F' H' : Hp} {ios os : List (Option Addr)} {σ : L2.St} {e : Env}
/-- a new object is laid: the world stands, the object is new -/
theorem WOk.lay {p : Addr} {o : HO} {d : D} (W : WOk K F0 Gd ios F H σ e os) (n : H p = none) (ob : Ob K F (upd H p o) p d) : WOk K F0 Gd ios F (upd H p o) σ e os ∧ Nw K Gd F (upd H p o) os p d :=
  ⟨W.ext ⟨Sm.refl _, fun a x e _ _ => Same.new n a x e, W.fh.trans (Same.new n), fun _ _ _ h _ => h, fun z => z.lay (ob.noTup upd_same) (.new n)⟩, ob, W.noGd n, W.notOwn n⟩
end
theorem sim_op2N {r : R2} {op : D → D → Option D} {ta tb : TE} {ma mb : ME} (ho : Op2N K r op) (ha : SimE K ta ma) (hb : SimE K tb mb) : SimN K (tOp r ta tb) (binN op ma mb) := ⟨fun {F0 Gd ios F H σ e os l e' Q} W hm q => by
  unfold binN at hm
  obtain ⟨⟨l1, e1⟩, h1, hm⟩ := Option.bind_eq_some_iff.mp hm
  obtain ⟨⟨l2, e2⟩, h2, hm⟩ := Option.bind_eq_some_iff.mp hm
  obtain ⟨a, ra, hm⟩ := Option.bind_eq_some_iff.mp hm
  obtain ⟨b, rb, hm⟩ := Option.bind_eq_some_iff.mp hm
  obtain ⟨d, hd, hm⟩ := Option.map_eq_some_iff.mp hm
  cases hm
  exact ha.run W h1 fun F1 H1 os1 x W1 s1 k1 => hb.run W1 h2 fun F2 H2 os2 y W2 s2 k2 =>
    ho W2.fh (W2.bw (k1.mono s2) ra) (W2.bw k2 rb) hd fun p o n ob => by
      obtain ⟨W3, nw⟩ := W2.lay n ob
      exact q F2 _ os2 p W3 (s1.trans s2) nw⟩
def rE (K : PySem.W.Frag) (m : ME) : TE := fun σ H Q => ∃ F0 Gd ios F e os l e', WOk K F0 Gd ios F H σ e os ∧ m e = some (l, e') ∧ ∀ F' H' os' x, WOk K F0 Gd ios F' H' σ e' os' → Sm F F' → LOk K F' σ x l → Q x H'
def rN (K : PySem.W.Frag) (m : MN) : TE := fun σ H Q => ∃ F0 Gd ios F e os d e', WOk K F0 Gd ios F H σ e os ∧ m e = some (d, e') ∧ ∀ F' H' os' p, WOk K F0 Gd ios F' H' σ e' os' → Sm F F' → Nw K Gd F' H' os' p d → Q (.ref p) H'
def rT (K : PySem.W.Frag) (m : MT) : TT := fun σ H Q => ∃ F0 Gd ios F e os b e', WOk K F0 Gd ios F H σ e os ∧ m e = some (b, e') ∧ ∀ F' H' os', WOk K F0 Gd ios F' H' σ e' os' → Sm F F' → Q b H'
def rA (K : PySem.W.Frag) (m : MA) : TA := fun σ H Q => ∃ F0 Gd ios F e os ls e', WOk K F0 Gd ios F H σ e os ∧ m e = some (ls, e') ∧ ∀ F' H' os' xs, WOk K F0 Gd ios F' H' σ e' os' → Sm F F' → LsOk K F' σ xs ls → Q xs H'
def rG (K : PySem.W.Frag) (js : List Nat) (m : MG) : TG := fun x σ H Q => ∃ F0 Gd ios F e os d e', WOk K F0 Gd ios F H σ e os ∧ Rp K F x d ∧ m d e = some e' ∧ ∀ F' H' σ' os', WOk K F0 Gd ios F' H' σ' e' os' → Sm F F' → But js σ σ' → Q σ' H'
def rIt (K : PySem.W.Frag) (m : MI) : TI := fun σ H R => ∃ F0 Gd ios F e os ds e', WOk K F0 Gd ios F H σ e os ∧ m e = some (ds, e') ∧ ∀ F' H' os' J, WOk K F0 Gd ios F' H' σ e' os' → Sm F F' → ItOk K F' J ds → R J H'
def rS (K : PySem.W.Frag) (m : MS) : TS := fun G σ H => ∃ F0 Gd ios F e os fl e', WOk K F0 Gd ios F H σ e os ∧ m e = some (fl, e') ∧ FlOk K F0 Gd ios F e' G fl
theorem sim_rE {m : ME} : SimE K (rE K m) m := ⟨fun W h q => ⟨_, _, _, _, _, _, _, _, W, h, q⟩⟩
theorem sim_rN {m : MN} : SimN K (rN K m) m := ⟨fun W h q => ⟨_, _, _, _, _, _, _, _, W, h, q⟩⟩
theorem sim_rT {m : MT} : SimT K (rT K m) m := ⟨fun W h q => ⟨_, _, _, _, _, _, _, _, W, h, q⟩⟩
theorem sim_rA {m : MA} : SimA K (rA K m) m := ⟨fun W h q => ⟨_, _, _, _, _, _, _, _, W, h, q⟩⟩
theorem sim_rG {js : List Nat} {m : MG} : SimG K (rG K js m) js m := ⟨fun W r h q => ⟨_, _, _, _, _, _, _, _, W, r, h, q⟩⟩
theorem sim_rI {m : MI} : SimI K (rIt K m) m := ⟨fun W h q => ⟨_, _, _, _, _, _, _, _, W, h, q⟩⟩
theorem sim_rS {m : MS} : SimS K (rS K m) m := ⟨fun W h q => ⟨_, _, _, _, _, _, _, _, W, h, q⟩⟩
section
variable {X : Cx} {e : Expr} {es : List Expr} {st : Stmt} {sts : List Stmt}
theorem toE {t : TE} {m : ME} (h : PE X e t) (s : SimE X.K t m) : PE X e (rE X.K m) := ⟨fun pins sh σ H Q I ⟨_, _, _, _, _, _, _, _, W, hm, q⟩ => h.run pins sh σ H Q I (s.run W hm q)⟩
theorem toN {t : TE} {m : MN} (h : PE X e t) (s : SimN X.K t m) : PE X e (rN X.K m) := ⟨fun pins sh σ H Q I ⟨_, _, _, _, _, _, _, _, W, hm, q⟩ => h.run pins sh σ H Q I (s.run W hm q)⟩
theorem toT {t : TT} {m : MT} (h : PT X e t) (s : SimT X.K t m) : PT X e (rT X.K m) := ⟨fun pins sh σ H Q I ⟨_, _, _, _, _, _, _, _, W, hm, q⟩ => h.run pins sh σ H Q I (s.run W hm q)⟩
theorem toW {t : TT} {m : MT} (h : PW X e t) (s : SimT X.K t m) : PW X e (rT X.K m) := ⟨fun wh pins sh σ H Q I ⟨_, _, _, _, _, _, _, _, W, hm, q⟩ => h.run wh pins sh σ H Q I (s.run W hm q)⟩
theorem toA {t : TA} {m : MA} (h : PA X es t) (s : SimA X.K t m) : PA X es (rA X.K m) := ⟨fun pos pins sh σ H Q I ⟨_, _, _, _, _, _, _, _, W, hm, q⟩ => h.run pos pins sh σ H Q I (s.run W hm q)⟩
theorem toG {t : TG} {js : List Nat} {m : MG} (h : PG X e t) (s : SimG X.K t js m) : PG X e (rG X.K js m) := ⟨fun pins sh σ H v u Q I r ⟨_, _, _, _, _, _, _, _, W, rp, hm, q⟩ => h.run pins sh σ H v u Q I r (s.run W rp hm q)⟩
theorem toI {tg : Expr} {t : TI} {m : MI} (h : PI X tg e t) (s : SimI X.K t m) : PI X tg e (rIt X.K m) := ⟨fun pins sh σ H R I ⟨_, _, _, _, _, _, _, _, W, hm, q⟩ => h.run pins sh σ H R I (s.run W hm q)⟩
theorem toS {t : TS} {m : MS} (h : PS X st t) (s : SimS X.K t m) : PS X st (rS X.K m) := ⟨fun pins sh σ H G I ⟨_, _, _, _, _, _, _, _, W, hm, q⟩ => h.run pins sh σ H G I (s.run W hm q)⟩
theorem toSs {t : TS} {m : MS} (h : PSs X sts t) (s : SimS X.K t m) : PSs X sts (rS X.K m) := ⟨fun pins sh σ H G I ⟨_, _, _, _, _, _, _, _, W, hm, q⟩ => h.run pins sh σ H G I (s.run W hm q)⟩
end
def nilA : MA := fun e => some ([], e)
def consA (ma : ME) (mr : MA) : MA := fun e => (ma e).bind fun p => (mr p.2).map fun q => (p.1 :: q.1, q.2)
theorem sim_nil : SimA K tNil nilA := ⟨fun {F0 Gd ios F H σ e os l e' Q} W hm q => by cases hm; exact q F H os [] W (Sm.refl _) .nil⟩
theorem sim_cons {te : TE} {t : TA} {ma : ME} {mr : MA} (ha : SimE K te ma) (hr : SimA K t mr) : SimA K (tCons te t) (consA ma mr) := ⟨fun {F0 Gd ios F H σ e os l e' Q} W hm q => by
  unfold consA at hm
  obtain ⟨⟨l1, e1⟩, h1, hm⟩ := Option.bind_eq_some_iff.mp hm
  obtain ⟨⟨ls, e2⟩, h2, hm⟩ := Option.map_eq_some_iff.mp hm
  cases hm
  exact ha.run W h1 fun F1 H1 os1 x W1 s1 k1 => hr.run W1 h2 fun F2 H2 os2 xs W2 s2 k2 => q F2 H2 os2 _ W2 (s1.trans s2) (.cons (k1.mono s2) k2)⟩
/-- all late values taken -/
def tks (e : Env) : List L → Option (List D × Env)
  | [] => some ([], e)
  | l :: ls => (tk e l).bind fun p => (tks p.2 ls).map fun q => (p.1 :: q.1, q.2)
theorem WOk.takes {F0 Gd : Hp} {ios : List (Option Addr)} {H : Hp} {σ : L2.St} : ∀ {ls : List L} {F : Hp} {e : Env} {os : List (Option Addr)} {xs : List V} {ds : List D} {e' : Env}, WOk K F0 Gd ios F H σ e os → LsOk K F σ xs ls → tks e ls = some (ds, e') →
    ∃ F' os', WOk K F0 Gd ios F' H σ e' os' ∧ Sm F F' ∧ RpL K F' xs ds
  | [], F, e, os, _, _, _, W, .nil, h => by cases h; exact ⟨F, os, W, Sm.refl _, .nil⟩
  | l :: ls, F, e, os, _, _, _, W, .cons k r, h => by
    unfold tks at h
    obtain ⟨⟨d, e1⟩, h1, h⟩ := Option.bind_eq_some_iff.mp h
    obtain ⟨⟨ds, e2⟩, h2, h⟩ := Option.map_eq_some_iff.mp h
    cases h
    obtain ⟨F1, os1, W1, s1, r1⟩ := W.take k h1
    obtain ⟨F2, os2, W2, s2, r2⟩ := WOk.takes W1 (r.mono s1) h2
    exact ⟨F2, os2, W2, s1.trans s2, .cons (r1.mono s2) r2⟩
def few (n : Nat) : Bool := decide (n ≤ 1000000)
theorem few_ok {n : Nat} (h : few n = true) : n ≤ sizeLine := Nat.le_trans (of_decide_eq_true h) (by decide)
theorem few_lt {n : Nat} (h : few n = true) : n < sizeLine := Nat.lt_of_le_of_lt (of_decide_eq_true h) (by decide)
def lstM (ma : MA) : MN := fun e => (ma e).bind fun p => (tks p.2 p.1).bind fun q => if few q.1.length then some (.lst q.1, q.2) else none
def tupM (ma : MA) : ME := fun e => (ma e).bind fun p => (tks p.2 p.1).bind fun q => if few q.1.length then some (.v (.hup q.1), q.2) else none
theorem sim_lst {t : TA} {ma : MA} (ha : SimA K t ma) : SimN K (tLst t) (lstM ma) := ⟨fun {F0 Gd ios F H σ e os l e' Q} W hm q => by
  unfold lstM at hm
  obtain ⟨⟨ls, e1⟩, h1, hm⟩ := Option.bind_eq_some_iff.mp hm
  obtain ⟨⟨ds, e2⟩, h2, hm⟩ := Option.bind_eq_some_iff.mp hm
  split at hm
  · rename_i hf
    cases hm
    refine ha.run W h1 fun F1 H1 os1 xs W1 s1 k1 => ?_
    obtain ⟨F2, os2, W2, s2, r⟩ := W1.takes k1 h2
    refine ⟨by rw [r.length]; exact few_ok hf, fun p n => ?_⟩
    obtain ⟨W3, nw⟩ := W2.lay (o := .lst xs) (d := .lst ds) n ⟨W2.fh.free n, xs, upd_same, r⟩
    exact q F2 _ os2 p W3 (s1.trans s2) nw
  · cases hm⟩
theorem sim_tup {t : TA} {ma : MA} (ha : SimA K t ma) : SimE K (tTup t) (tupM ma) := ⟨fun {F0 Gd ios F H σ e os l e' Q} W hm q => by
  unfold tupM at hm
  obtain ⟨⟨ls, e1⟩, h1, hm⟩ := Option.bind_eq_some_iff.mp hm
  obtain ⟨⟨ds, e2⟩, h2, hm⟩ := Option.bind_eq_some_iff.mp hm
  split at hm
  · rename_i hf
    cases hm
    refine ha.run W h1 fun F1 H1 os1 xs W1 s1 k1 => ?_
    obtain ⟨F2, os2, W2, s2, r⟩ := W1.takes k1 h2
    refine ⟨by rw [r.length]; exact few_ok hf, fun p n => ?_⟩
    have x := Ext.new (o := .tup xs) W2.fh n
    exact q _ _ os2 _ (W2.ext x) ((s1.trans s2).trans x.f) (.hup upd_same (r.mono x.f))
  · cases hm⟩
inductive BwL (K : PySem.W.Frag) (F H : Hp) : List V → List D → Prop
  | nil : BwL K F H [] []
  | cons {x : V} {xs : List V} {d : D} {ds : List D} : Bw K F H x d → BwL K F H xs ds → BwL K F H (x :: xs) (d :: ds)
def rds (e : Env) : List L → Option (List D)
  | [] => some []
  | l :: ls => (rd e l).bind fun d => (rds e ls).map fun r => d :: r
theorem WOk.bwL {F0 Gd F H : Hp} {ios os : List (Option Addr)} {σ : L2.St} {e : Env} (W : WOk K F0 Gd ios F H σ e os) : ∀ {xs : List V} {ls : List L} {ds : List D}, LsOk K F σ xs ls → rds e ls = some ds → BwL K F H xs ds
  | _, _, _, .nil, h => by cases h; exact .nil
  | _, _, _, .cons k r, h => by
    unfold rds at h
    obtain ⟨d, h1, h⟩ := Option.bind_eq_some_iff.mp h
    obtain ⟨ds, h2, h⟩ := Option.map_eq_some_iff.mp h
    cases h
    exact .cons (W.bw k h1) (W.bwL r h2)
def OpA (K : PySem.W.Frag) (r : List V → Hp → VK → Prop) (op : List D → Option D) : Prop := ∀ {F H : Hp} {xs : List V} {ds : List D} {d : D} {Q : VK}, Same F H → BwL K F H xs ds → op ds = some d →
  (∀ F' H' v, Ext F H F' H' → Rp K F' v d → Q v H') → r xs H Q
def OpAN (K : PySem.W.Frag) (r : List V → Hp → VK → Prop) (op : List D → Option D) : Prop := ∀ {F H : Hp} {xs : List V} {ds : List D} {d : D} {Q : VK}, Same F H → BwL K F H xs ds → op ds = some d →
  (∀ p o, H p = none → Ob K F (upd H p o) p d → Q (.ref p) (upd H p o)) → r xs H Q
def cbM (op : List D → Option D) (ma : MA) : ME := fun e => (ma e).bind fun p => (rds p.2 p.1).bind fun ds => (op ds).map fun d => (.v d, p.2)
def cbN (op : List D → Option D) (ma : MA) : MN := fun e => (ma e).bind fun p => (rds p.2 p.1).bind fun ds => (op ds).map fun d => (d, p.2)
theorem sim_cb {r : List V → Hp → VK → Prop} {op : List D → Option D} {t : TA} {ma : MA} (ho : OpA K r op) (ha : SimA K t ma) : SimE K (tCB r t) (cbM op ma) := ⟨fun {F0 Gd ios F H σ e os l e' Q} W hm q => by
  unfold cbM at hm
  obtain ⟨⟨ls, e1⟩, h1, hm⟩ := Option.bind_eq_some_iff.mp hm
  obtain ⟨ds, h2, hm⟩ := Option.bind_eq_some_iff.mp hm
  obtain ⟨d, hd, hm⟩ := Option.map_eq_some_iff.mp hm
  cases hm
  exact ha.run W h1 fun F1 H1 os1 xs W1 s1 k1 => ho W1.fh (W1.bwL k1 h2) hd fun F3 H3 v x3 rp => q F3 H3 os1 v (W1.ext x3) (s1.trans x3.f) rp⟩
theorem sim_cbN {r : List V → Hp → VK → Prop} {op : List D → Option D} {t : TA} {ma : MA} (ho : OpAN K r op) (ha : SimA K t ma) : SimN K (tCB r t) (cbN op ma) := ⟨fun {F0 Gd ios F H σ e os l e' Q} W hm q => by
  unfold cbN at hm
  obtain ⟨⟨ls, e1⟩, h1, hm⟩ := Option.bind_eq_some_iff.mp hm
  obtain ⟨ds, h2, hm⟩ := Option.bind_eq_some_iff.mp hm
  obtain ⟨d, hd, hm⟩ := Option.map_eq_some_iff.mp hm
  cases hm
  exact ha.run W h1 fun F1 H1 os1 xs W1 s1 k1 => ho W1.fh (W1.bwL k1 h2) hd fun p o n ob => by
    obtain ⟨W3, nw⟩ := W1.lay n ob
    exact q F1 _ os1 p W3 s1 nw⟩
/-- a value that is a bool, as a test -/
def bM (m : ME) : MT := fun e => (m e).bind fun p => (rd p.2 p.1).bind fun d => match d with
  | .bl b => some (b, p.2)
  | _ => none
theorem Bw.isBl {F H : Hp} {x : V} {b : Bool} (h : Bw K F H x (.bl b)) : x = .bl b := by
  rcases h with h | ⟨p, _, h⟩
  · cases h; rfl
  · exact h.2.elim
theorem Bw.isInt {F H : Hp} {x : V} {b : Int} (h : Bw K F H x (.int b)) : x = .int b := by
  rcases h with h | ⟨p, _, h⟩
  · cases h; rfl
  · exact h.2.elim
theorem Bw.isStr {F H : Hp} {x : V} {b : Str} (h : Bw K F H x (.str b)) : x = .str b := by
  rcases h with h | ⟨p, _, h⟩
  · cases h; rfl
  · exact h.2.elim
theorem Bw.isNon {F H : Hp} {x : V} (h : Bw K F H x .non) : x = .non := by
  rcases h with h | ⟨p, _, h⟩
  · cases h; rfl
  · exact h.2.elim
theorem Bw.isLst {F H : Hp} {x : V} {ds : List D} (s : Same F H) (h : Bw K F H x (.lst ds)) : ∃ a xs, x = .ref a ∧ H a = some (.lst xs) ∧ RpL K F xs ds := by
  rcases h with h | ⟨p, rfl, h⟩
  · cases h with
    | lst h r => exact ⟨_, _, rfl, s _ _ h, r⟩
  · obtain ⟨_, xs, e, r⟩ := h
    exact ⟨p, xs, rfl, e, r⟩
theorem Bw.isScr {F H : Hp} {x : V} {ns : List Int} (s : Same F H) (h : Bw K F H x (.scr ns)) : ∃ a, x = .ref a ∧ SqL K H a (ns.map V.int) := by
  rcases h with h | ⟨p, rfl, h⟩
  · cases h with
    | scr h => exact ⟨_, rfl, s.seq h⟩
  · exact h.2.elim
theorem Bw.isTup {F H : Hp} {x : V} {ds : List D} (s : Same F H) (h : Bw K F H x (.tup ds)) : ∃ a xs, x = .ref a ∧ SqT K H a xs ∧ RpL K F xs ds ∧ SqT K F a xs := by
  rcases h with h | ⟨p, rfl, h⟩
  · cases h with
    | tup h r => exact ⟨_, _, rfl, seqT (.of s) h, r, h⟩
  · exact h.2.elim
theorem Bw.isDic {F H : Hp} {x : V} {ds : List (Key × D)} (s : Same F H) (h : Bw K F H x (.dic ds)) : ∃ a xs, x = .ref a ∧ Rd H a (.dK xs) ∧ RpK K F xs ds := by
  rcases h with h | ⟨p, rfl, h⟩
  · cases h with
    | dic h r => exact ⟨_, _, rfl, (Sm.of s).rd h, r⟩
  · obtain ⟨_, xs, e, r⟩ := h
    exact ⟨p, xs, rfl, .inl e, r⟩
theorem rd_inj {F : Hp} {a : Addr} {k l : List (Key × V)} (h : Rd F a (.dK k)) (g : Rd F a (.dK l)) : k = l := by
  rcases h with h | ⟨o, h⟩ <;> rcases g with g | ⟨u, g⟩ <;> (rw [h] at g; cases g) <;> rfl
theorem dgetR {H : Hp} {a : Addr} {kvs : List (Key × V)} {k : Key} (e : Rd H a (.dK kvs)) : DGet H a (kV k) (valV kvs k) := .inl ⟨kvs, k, e, rfl, rfl⟩
theorem Bw.isDit {F H : Hp} {x : V} {ds : List (List Key × D)} (s : Same F H) (h : Bw K F H x (.dit ds)) : ∃ a xs, x = .ref a ∧ Rd H a (.dT xs) ∧ RpT K F xs ds := by
  rcases h with h | ⟨p, rfl, h⟩
  · cases h with
    | dit h r => exact ⟨_, _, rfl, (Sm.of s).rd h, r⟩
  · obtain ⟨_, xs, e, r⟩ := h
    exact ⟨p, xs, rfl, .inl e, r⟩
theorem Bw.isObj {F H : Hp} {x : V} {n : Str} {fs : List (Str × D)} (s : Same F H) (h : Bw K F H x (.obj n fs)) : ∃ a C dx vs, x = .ref a ∧ PySem.W.nsIn K mainGlobals n = some (some (.ref C)) ∧ H a = some (.ins C dx vs) ∧ F dx = some (.own a) ∧ RpF K F vs fs := by
  rcases h with h | ⟨p, rfl, h⟩
  · cases h with
    | obj n h g r => exact ⟨_, _, _, _, rfl, n, s _ _ h, g, r⟩
  · obtain ⟨_, o, e, C, dx, vs, rfl, nn, g, r⟩ := h
    exact ⟨p, C, dx, vs, rfl, nn, e, g, r⟩
theorem sim_tTest {t : TE} {m : ME} (h : SimE K t m) : SimT K (tTest t) (bM m) := ⟨fun {F0 Gd ios F H σ e os b e' Q} W hm q => by
  unfold bM at hm
  obtain ⟨⟨l1, e1⟩, h1, hm⟩ := Option.bind_eq_some_iff.mp hm
  obtain ⟨d, hd, hm⟩ := Option.bind_eq_some_iff.mp hm
  cases d <;> first | cases hm | skip
  exact h.run W h1 fun F1 H1 os1 x W1 s1 k1 => ⟨_, (W1.bw k1 hd).isBl, q F1 H1 os1 W1 s1⟩⟩
theorem sim_tB {t : TE} {m : ME} (h : SimE K t m) : SimT K (tB t) (bM m) := ⟨fun {F0 Gd ios F H σ e os b e' Q} W hm q => by
  unfold bM at hm
  obtain ⟨⟨l1, e1⟩, h1, hm⟩ := Option.bind_eq_some_iff.mp hm
  obtain ⟨d, hd, hm⟩ := Option.bind_eq_some_iff.mp hm
  cases d <;> first | cases hm | skip
  exact h.run W h1 fun F1 H1 os1 x W1 s1 k1 => ⟨_, (W1.bw k1 hd).isBl, q F1 H1 os1 W1 s1⟩⟩
def andT (ma mb : MT) : MT := fun e => (ma e).bind fun p => if p.1 = true then mb p.2 else some (false, p.2)
def orT (ma mb : MT) : MT := fun e => (ma e).bind fun p => if p.1 = true then some (true, p.2) else mb p.2
def notT (ma : MT) : MT := fun e => (ma e).map fun p => (!p.1, p.2)
theorem sim_and {ta tb : TT} {ma mb : MT} (ha : SimT K ta ma) (hb : SimT K tb mb) : SimT K (tAnd ta tb) (andT ma mb) := ⟨fun {F0 Gd ios F H σ e os b e' Q} W hm q => by
  unfold andT at hm
  obtain ⟨⟨c, e1⟩, h1, hm⟩ := Option.bind_eq_some_iff.mp hm
  refine ha.run W h1 fun F1 H1 os1 W1 s1 => ?_
  cases c with
  | true => exact iteT (hb.run W1 hm fun F2 H2 os2 W2 s2 => q F2 H2 os2 W2 (s1.trans s2))
  | false => cases hm; exact iteF (q F1 H1 os1 W1 s1)⟩
theorem sim_or {ta tb : TT} {ma mb : MT} (ha : SimT K ta ma) (hb : SimT K tb mb) : SimT K (tOr ta tb) (orT ma mb) := ⟨fun {F0 Gd ios F H σ e os b e' Q} W hm q => by
  unfold orT at hm
  obtain ⟨⟨c, e1⟩, h1, hm⟩ := Option.bind_eq_some_iff.mp hm
  refine ha.run W h1 fun F1 H1 os1 W1 s1 => ?_
  cases c with
  | false => exact iteF (hb.run W1 hm fun F2 H2 os2 W2 s2 => q F2 H2 os2 W2 (s1.trans s2))
  | true => cases hm; exact iteT (q F1 H1 os1 W1 s1)⟩
theorem sim_not {ta : TT} {ma : MT} (ha : SimT K ta ma) : SimT K (tNot ta) (notT ma) := ⟨fun {F0 Gd ios F H σ e os b e' Q} W hm q => by
  unfold notT at hm
  obtain ⟨⟨c, e1⟩, h1, hm⟩ := Option.map_eq_some_iff.mp hm
  cases hm
  exact ha.run W h1 fun F1 H1 os1 W1 s1 => q F1 H1 os1 W1 s1⟩
/-- .. as values: bools -/
def andV (ma mb : ME) : ME := fun e => (bM ma e).bind fun p => if p.1 = true then mb p.2 else some (.v (.bl false), p.2)
def notV (ma : ME) : ME := fun e => (bM ma e).map fun p => (.v (.bl (!p.1)), p.2)
theorem sim_bM {t : TE} {m : ME} (h : SimE K t m) {F0 Gd : Hp} {ios : List (Option Addr)} {F H : Hp} {σ : L2.St} {e : Env} {os : List (Option Addr)} {b : Bool} {e' : Env} {Q : VK} (W : WOk K F0 Gd ios F H σ e os) (hm : bM m e = some (b, e'))
    (q : ∀ F' H' os', WOk K F0 Gd ios F' H' σ e' os' → Sm F F' → Q (.bl b) H') : t σ H Q := by
  unfold bM at hm
  obtain ⟨⟨l1, e1⟩, h1, hm⟩ := Option.bind_eq_some_iff.mp hm
  obtain ⟨d, hd, hm⟩ := Option.bind_eq_some_iff.mp hm
  cases d <;> first | cases hm | skip
  exact h.run W h1 fun F1 H1 os1 x W1 s1 k1 => by
    rw [(W1.bw k1 hd).isBl]; exact q F1 H1 os1 W1 s1
theorem sim_andV {ta tb : TE} {ma mb : ME} (ha : SimE K ta ma) (hb : SimE K tb mb) : SimE K (tAndV ta tb) (andV ma mb) := ⟨fun {F0 Gd ios F H σ e os b e' Q} W hm q => by
  unfold andV at hm
  obtain ⟨⟨c, e1⟩, h1, hm⟩ := Option.bind_eq_some_iff.mp hm
  refine sim_bM ha W h1 fun F1 H1 os1 W1 s1 => ⟨c, rfl, ?_⟩
  cases c with
  | true => exact iteT (hb.run W1 hm fun F2 H2 os2 x W2 s2 k => q F2 H2 os2 x W2 (s1.trans s2) k)
  | false => cases hm; exact iteF (q F1 H1 os1 _ W1 s1 (Rp.bl false))⟩
theorem sim_notV {ta : TE} {ma : ME} (ha : SimE K ta ma) : SimE K (tNotV ta) (notV ma) := ⟨fun {F0 Gd ios F H σ e os b e' Q} W hm q => by
  unfold notV at hm
  obtain ⟨⟨c, e1⟩, h1, hm⟩ := Option.map_eq_some_iff.mp hm
  cases hm
  exact sim_bM ha W h1 fun F1 H1 os1 W1 s1 => ⟨c, rfl, q F1 H1 os1 _ W1 s1 (Rp.bl _)⟩⟩
def ifM (mc : MT) (ma mb : ME) : ME := fun e => (mc e).bind fun p => if p.1 = true then ma p.2 else mb p.2
theorem sim_if {tc : TT} {ta tb : TE} {mc : MT} {ma mb : ME} (hc : SimT K tc mc) (ha : SimE K ta ma) (hb : SimE K tb mb) : SimE K (tIf tc ta tb) (ifM mc ma mb) := ⟨fun {F0 Gd ios F H σ e os b e' Q} W hm q => by
  unfold ifM at hm
  obtain ⟨⟨c, e1⟩, h1, hm⟩ := Option.bind_eq_some_iff.mp hm
  refine hc.run W h1 fun F1 H1 os1 W1 s1 => ?_
  cases c with
  | true => exact iteT (ha.run W1 hm fun F2 H2 os2 x W2 s2 k => q F2 H2 os2 x W2 (s1.trans s2) k)
  | false => exact iteF (hb.run W1 hm fun F2 H2 os2 x W2 s2 k => q F2 H2 os2 x W2 (s1.trans s2) k)⟩
end Dk
set_option exponentiation.threshold 256
namespace Dk
open PySem PySem.Spec PyProof.Rows L2
variable [TabP]
variable {K : PySem.W.Frag}
def nxM : MS := fun e => some (.nx, e)
theorem sim_next : SimS K tNext nxM := ⟨fun {F0 Gd ios F H σ e os fl e' G} W hm q => by cases hm; exact q F H σ os W (Sm.refl _)⟩
def noM : MS := fun _ => none
theorem sim_never : SimS K tNever noM := ⟨fun _ hm _ => nomatch hm⟩
def seqM (m1 m2 : MS) : MS := fun e => (m1 e).bind fun p => match p.1 with
  | .nx => m2 p.2
  | f => some (f, p.2)
theorem sim_seq {t u : TS} {m1 m2 : MS} (h1 : SimS K t m1) (h2 : SimS K u m2) : SimS K (tSeq t u) (seqM m1 m2) := ⟨fun {F0 Gd ios F H σ e os fl e' G} W hm q => by
  unfold seqM at hm
  obtain ⟨⟨f1, e1⟩, z, hm⟩ := Option.bind_eq_some_iff.mp hm
  refine h1.run W z ?_
  cases f1 with
  | nx => exact fun F1 H1 σ1 os1 W1 s1 => h2.run W1 hm (q.mono s1)
  | bk => cases hm; exact q
  | ct => cases hm; exact q
  | rt d => cases hm; exact q
  | rn d => cases hm; exact q⟩
def ifS (mc : MT) (m1 m2 : MS) : MS := fun e => (mc e).bind fun p => if p.1 = true then m1 p.2 else m2 p.2
theorem sim_ifS {tc : TT} {t u : TS} {mc : MT} {m1 m2 : MS} (hc : SimT K tc mc) (h1 : SimS K t m1) (h2 : SimS K u m2) : SimS K (tIfS tc t u) (ifS mc m1 m2) := ⟨fun {F0 Gd ios F H σ e os fl e' G} W hm q => by
  unfold ifS at hm
  obtain ⟨⟨c, e1⟩, z, hm⟩ := Option.bind_eq_some_iff.mp hm
  refine hc.run W z fun F1 H1 os1 W1 s1 => ?_
  cases c with
  | true => exact iteT (h1.run W1 hm (q.mono s1))
  | false => exact iteF (h2.run W1 hm (q.mono s1))⟩
def exM (m : ME) : MS := fun e => (m e).map fun p => (.nx, p.2)
theorem sim_drop {t : TE} {m : ME} (h : SimE K t m) : SimS K (tDrop t) (exM m) := ⟨fun {F0 Gd ios F H σ e os fl e' G} W hm q => by
  unfold exM at hm
  obtain ⟨⟨l, e1⟩, z, hm⟩ := Option.map_eq_some_iff.mp hm
  cases hm
  exact h.run W z fun F1 H1 os1 x W1 s1 _ => q F1 H1 σ os1 W1 s1⟩
def retM (m : ME) : MS := fun e => (m e).bind fun p => (tk p.2 p.1).map fun q => (.rt q.1, q.2)
theorem sim_ret {t : TE} {m : ME} (h : SimE K t m) : SimS K (tRet t) (retM m) := ⟨fun {F0 Gd ios F H σ e os fl e' G} W hm q => by
  unfold retM at hm
  obtain ⟨⟨l, e1⟩, z, hm⟩ := Option.bind_eq_some_iff.mp hm
  obtain ⟨⟨d, e2⟩, y, hm⟩ := Option.map_eq_some_iff.mp hm
  cases hm
  refine h.run W z fun F1 H1 os1 x W1 s1 k => ?_
  obtain ⟨F2, os2, W2, s2, r⟩ := W1.take k y
  exact q F2 H1 σ os2 x W2 (s1.trans s2) r⟩
def retN (m : MN) : MS := fun e => (m e).map fun p => (.rn p.1, p.2)
theorem WOk.newIo {F0 Gd F H : Hp} {ios os : List (Option Addr)} {σ : L2.St} {e : Env} {p : Addr} (W : WOk K F0 Gd ios F H σ e os) (n : ∀ i : Nat, os[i]? ≠ some (some p)) : ∀ i : Nat, ios[i]? ≠ some (some p) := fun i h => n i (W.io i p h).1
theorem sim_retN {t : TE} {m : MN} (h : SimN K t m) : SimS K (tRet t) (retN m) := ⟨fun {F0 Gd ios F H σ e os fl e' G} W hm q => by
  unfold retN at hm
  obtain ⟨⟨l, e1⟩, z, hm⟩ := Option.map_eq_some_iff.mp hm
  cases hm
  exact h.run W z fun F1 H1 os1 p W1 s1 nw => q F1 H1 σ os1 p W1 s1 nw.ob nw.gd (W1.f0.free nw.ob.1) (W1.newIo nw.no)⟩
/-- return of an owned name: its object is handed on as a new one -/
def retO (i : Nat) : MS := fun e => match e[i]? with
  | some (.ow d) => some (.rn d, e)
  | _ => none
theorem join_some {α : Type} {o : Option (Option α)} {x : α} (h : o.join = some x) : o = some (some x) := by
  cases o with
  | none => cases h
  | some o => cases o with
    | none => cases h
    | some o => cases h; rfl
theorem sim_retO (i : Nat) : SimS K (tRet (tVar i)) (retO i) := ⟨fun {F0 Gd ios F H σ e os fl e' G} W hm q => by
  unfold retO at hm
  split at hm
  · rename_i d hd
    cases hm
    obtain ⟨p, h1, h2, ob⟩ := W.sl i _ hd
    refine ⟨.ref p, join_some h2, q F H σ os p W (Sm.refl _) ob ?_ (W.f0.free ob.1) fun j hj => ?_⟩
    · cases z : Gd p with
      | none => rfl
      | some o => exact absurd (join_some h1) ((W.gd p o z).2.2 i)
    · obtain ⟨y1, c, y2⟩ := W.io j p hj
      have := W.ds i j p (join_some h1) y1
      subst this
      rw [hd] at y2; cases y2
  · cases hm⟩
/-- the slot i gets frozen data -/
def putZ (i : Nat) (d : D) (e : Env) : Option Env := match e[i]? with
  | some (.io _) => none
  | some _ => some (e.set i (.fz d))
  | none => none
section
variable {F0 Gd F H : Hp} {ios os : List (Option Addr)} {σ : L2.St} {e : Env}
theorem WOk.putZ {i : Nat} {d : D} {e' : Env} {x : V} (W : WOk K F0 Gd ios F H σ e os) (r : Rp K F x d) (h : putZ i d e = some e') : WOk K F0 Gd ios F H (σ.set i (some x)) e' (os.set i none) := by
  unfold Dk.putZ at h
  have go : ∀ s, e[i]? = some s → (∀ d, s ≠ .io d) → some (e.set i (.fz d)) = some e' → WOk K F0 Gd ios F H (σ.set i (some x)) e' (os.set i none) := fun s hs hn q => by
    cases q
    exact W.put (List.getElem?_eq_some_iff.mp hs).1 (W.noIo hs hn) ⟨rfl, x, rfl, r⟩ fun p q => nomatch q
  split at h
  · cases h
  · rename_i s hs hn
    exact go s hn (fun d z => hs d z) h
  · cases h
/-- the slot i gets a new owned object -/
theorem WOk.putO {i : Nat} {d : D} {p : Addr} (W : WOk K F0 Gd ios F H σ e os) (nw : Nw K Gd F H os p d) {s : Sl} (hs : e[i]? = some s) (hn : ∀ d, s ≠ .io d) : WOk K F0 Gd ios F H (σ.set i (some (.ref p))) (e.set i (.ow d)) (os.set i (some p)) :=
  W.put (List.getElem?_eq_some_iff.mp hs).1 (W.noIo hs hn) ⟨p, rfl, rfl, nw.ob⟩ fun b q => by cases q; exact ⟨nw.gd, fun j _ => nw.no j⟩
end
def nameG (i : Nat) : MG := fun d e => putZ i d e
theorem But.set (i : Nat) (σ : L2.St) (v : Option V) : But [i] σ (σ.set i v) := ⟨by rw [List.length_set], fun j h => by rw [List.getElem?_set_ne (fun z => h (by rw [z]; exact List.mem_singleton.mpr rfl))]⟩
theorem But.trans {a b : List Nat} {σ σ1 σ2 : L2.St} (h : But a σ σ1) (h2 : But b σ1 σ2) : But (a ++ b) σ σ2 := ⟨h2.1.trans h.1, fun i hi => by
  rw [h2.2 i (fun z => hi (List.mem_append.mpr (.inr z))), h.2 i (fun z => hi (List.mem_append.mpr (.inl z)))]⟩
theorem sim_gName (i : Nat) : SimG K (gName i) [i] (nameG i) := ⟨fun {F0 Gd ios F H σ e os x d e' Q} W r hm q => q F H _ _ (W.putZ r hm) (Sm.refl _) (But.set i σ _)⟩
def nilG : List D → Env → Option Env := fun ds e => match ds with
  | [] => some e
  | _ => none
def consG (m : MG) (r : List D → Env → Option Env) : List D → Env → Option Env := fun ds e => match ds with
  | d :: ds => (m d e).bind fun e1 => r ds e1
  | [] => none
structure SimGs (K : PySem.W.Frag) (t : TGs) (js : List Nat) (m : List D → Env → Option Env) : Prop where
  run : ∀ {F0 Gd : Hp} {ios : List (Option Addr)} {F H : Hp} {σ : L2.St} {e : Env} {os : List (Option Addr)} {xs : List V} {ds : List D} {e' : Env} {Q : L2.St → Hp → Prop}, WOk K F0 Gd ios F H σ e os → RpL K F xs ds → m ds e = some e' →
    (∀ F' H' σ' os', WOk K F0 Gd ios F' H' σ' e' os' → Sm F F' → But js σ σ' → Q σ' H') → t xs σ H Q
theorem sim_gNil : SimGs K gNil [] nilG := ⟨fun {F0 Gd ios F H σ e os xs ds e' Q} W r hm q => by
  cases r with
  | nil => cases hm; exact ⟨rfl, q F H _ _ W (Sm.refl _) ⟨rfl, fun _ _ => rfl⟩⟩
  | cons _ _ => cases hm⟩
theorem sim_gCons {t : TG} {u : TGs} {js ks : List Nat} {m : MG} {r : List D → Env → Option Env} (h : SimG K t js m) (hr : SimGs K u ks r) : SimGs K (gCons t u) (js ++ ks) (consG m r) := ⟨fun {F0 Gd ios F H σ e os xs ds e' Q} W rp hm q => by
  cases rp with
  | nil => cases hm
  | cons r1 r2 =>
    obtain ⟨e1, h1, h2⟩ := Option.bind_eq_some_iff.mp hm
    exact ⟨_, _, rfl, h.run W r1 h1 fun F1 H1 σ1 os1 W1 s1 b1 => hr.run W1 (r2.mono s1) h2 fun F2 H2 σ2 os2 W2 s2 b2 => q F2 H2 σ2 os2 W2 (s1.trans s2) (b1.trans b2)⟩⟩
def tupG (n : Nat) (m : List D → Env → Option Env) : MG := fun d e => match wk d with
  | .tup ds => if ds.length = n then m ds e else none
  | _ => none
theorem sim_gTup {n : Nat} {t : TGs} {js : List Nat} {m : List D → Env → Option Env} (h : SimGs K t js m) : SimG K (gTup K n t) js (tupG n m) := ⟨fun {F0 Gd ios F H σ e os x d e' Q} W rp hm q => by
  have rp := rp.wk
  unfold tupG at hm
  generalize wk d = c at hm rp
  cases rp with
  | tup hs r =>
    simp only at hm
    split at hm
    · rename_i hl
      exact ⟨_, _, rfl, seqT (.of W.fh) hs, by rw [r.length]; exact hl, h.run W r hm q⟩
    · cases hm
  | _ => cases hm⟩
def asgM (m : ME) (g : MG) : MS := fun e => (m e).bind fun p => (tk p.2 p.1).bind fun q => (g q.1 q.2).map fun e2 => (.nx, e2)
theorem sim_asg {t : TE} {g : TG} {js : List Nat} {m : ME} {mg : MG} (h : SimE K t m) (hg : SimG K g js mg) : SimS K (tAsg t g) (asgM m mg) := ⟨fun {F0 Gd ios F H σ e os fl e' G} W hm q => by
  unfold asgM at hm
  obtain ⟨⟨l, e1⟩, z, hm⟩ := Option.bind_eq_some_iff.mp hm
  obtain ⟨⟨d, e2⟩, y, hm⟩ := Option.bind_eq_some_iff.mp hm
  obtain ⟨e3, u, hm⟩ := Option.map_eq_some_iff.mp hm
  cases hm
  refine h.run W z fun F1 H1 os1 x W1 s1 k => ?_
  obtain ⟨F2, os2, W2, s2, r⟩ := W1.take k y
  exact hg.run W2 r u fun F3 H3 σ3 os3 W3 s3 _ => q F3 H3 σ3 os3 W3 ((s1.trans s2).trans s3)⟩
def asgN (m : MN) (i : Nat) : MS := fun e => (m e).bind fun p => match p.2[i]? with
  | some (.io _) => none
  | some _ => some (.nx, p.2.set i (.ow p.1))
  | none => none
theorem sim_asgN {t : TE} {m : MN} {i : Nat} (h : SimN K t m) : SimS K (tAsg t (gName i)) (asgN m i) := ⟨fun {F0 Gd ios F H σ e os fl e' G} W hm q => by
  unfold asgN at hm
  obtain ⟨⟨d, e1⟩, z, hm⟩ := Option.bind_eq_some_iff.mp hm
  refine h.run W z fun F1 H1 os1 p W1 s1 nw => ?_
  simp only at hm
  split at hm
  · cases hm
  · rename_i s hs hn
    cases hm
    exact q F1 H1 _ _ (W1.putO nw hn fun d z => hs d z) s1
  · cases hm⟩
/-- a, b = x, y -/
def parM (i j : Nat) (m : MA) : MS := fun e => (m e).bind fun p => (tks p.2 p.1).bind fun q => match q.1 with
  | [a, b] => (putZ i a q.2).bind fun e1 => (putZ j b e1).map fun e2 => (.nx, e2)
  | _ => none
theorem sim_par {i j : Nat} {t : TA} {m : MA} (h : SimA K t m) : SimS K (tPar i j t) (parM i j m) := ⟨fun {F0 Gd ios F H σ e os fl e' G} W hm q => by
  unfold parM at hm
  obtain ⟨⟨ls, e1⟩, z, hm⟩ := Option.bind_eq_some_iff.mp hm
  obtain ⟨⟨ds, e2⟩, y, hm⟩ := Option.bind_eq_some_iff.mp hm
  refine h.run W z fun F1 H1 os1 xs W1 s1 k => ?_
  obtain ⟨F2, os2, W2, s2, r⟩ := W1.takes k y
  simp only at hm
  split at hm
  · rename_i a b
    cases r with
    | cons r1 r =>
      cases r with
      | cons r2 r =>
        cases r
        obtain ⟨e3, u, hm⟩ := Option.bind_eq_some_iff.mp hm
        obtain ⟨e4, v, hm⟩ := Option.map_eq_some_iff.mp hm
        cases hm
        exact ⟨_, _, rfl, q F2 H1 _ _ ((W2.putZ r1 u).putZ r2 v) (s1.trans s2)⟩
  · cases hm⟩
theorem WOk.val {F0 Gd F H : Hp} {ios os : List (Option Addr)} {σ : L2.St} {e : Env} {i : Nat} {d : D} (W : WOk K F0 Gd ios F H σ e os) (h : rdS e[i]? = some d) : ∃ x, σ[i]? = some (some x) := by
  cases y : e[i]? with
  | none => rw [y] at h; cases h
  | some s =>
    have k := W.sl i s y
    rw [y] at h
    cases s with
    | no => cases h
    | fn kf => cases h
    | fz c => obtain ⟨_, x, h, _⟩ := k; exact ⟨x, join_some h⟩
    | ow c => obtain ⟨p, _, h, _⟩ := k; exact ⟨_, join_some h⟩
    | io c => obtain ⟨p, _, h, _⟩ := k; exact ⟨_, join_some h⟩
def wr (e : Env) (k : Nat) (d : D) : Option Env := match e[k]? with
  | some (.ow _) => some (e.set k (.ow d))
  | some (.io _) => some (e.set k (.io d))
  | _ => none
/-- what is owned at the slot k -/
def ownD (e : Env) (k : Nat) : Option D := match e[k]? with
  | some (.ow d) => some d
  | some (.io d) => some d
  | _ => none
section
variable {F0 Gd F H F' H' : Hp} {ios os : List (Option Addr)} {σ : L2.St} {e : Env}
theorem WOk.at_ {k : Nat} {d : D} (W : WOk K F0 Gd ios F H σ e os) (h : ownD e k = some d) : ∃ p, os[k]? = some (some p) ∧ σ[k]? = some (some (.ref p)) ∧ Ob K F H p d := by
  unfold ownD at h
  split at h
  · rename_i c hc
    cases h
    obtain ⟨p, h1, h2, ob⟩ := W.sl k _ hc
    exact ⟨p, join_some h1, join_some h2, ob⟩
  · rename_i c hc
    cases h
    obtain ⟨p, h1, h2, ob⟩ := W.sl k _ hc
    exact ⟨p, join_some h1, join_some h2, ob⟩
  · cases h
/-- the world behind a change of the object that the slot k owns: F' H' keep all else -/
theorem WOk.chg {k : Nat} {d : D} {p : Addr} {e' : Env} (W : WOk K F0 Gd ios F H σ e os) (hp : os[k]? = some (some p)) (sf : Sm F F') (fh : Same F' H')
    (keep : ∀ b o, H b = some o → F b = none → (∀ ps, o ≠ .tbl ps) → b ≠ p → H' b = some o ∧ F' b = none) (ob : Ob K F' H' p d) (hw : wr e k d = some e') (tp : Tp F' H') : WOk K F0 Gd ios F' H' σ e' os := by
  have hk : k < e.length := by rw [← W.lo]; exact (List.getElem?_eq_some_iff.mp hp).1
  have hv : σ[k]?.join = some (.ref p) := by
    obtain ⟨c, hc⟩ : ∃ c, e[k]? = some c := ⟨e[k], List.getElem?_eq_getElem hk⟩
    have z := W.sl k c hc
    rw [hp] at z
    unfold wr at hw
    rw [hc] at hw
    cases c with
    | no => cases hw
    | fn kf => cases hw
    | fz c => cases hw
    | ow c => obtain ⟨p', h1, h2, _⟩ := z; cases h1; exact h2
    | io c => obtain ⟨p', h1, h2, _⟩ := z; cases h1; exact h2
  have kOb : ∀ b c (j : Nat), os[j]? = some (some b) → j ≠ k → Ob K F H b c → Ob K F' H' b c := fun b c j hj hjk o => by
    obtain ⟨u, hu⟩ := o.has
    have hb : b ≠ p := fun z => by subst z; exact hjk (W.ds j k b hj hp)
    obtain ⟨h1, h2⟩ := keep b u hu o.1 (o.noTab _ hu).1 hb
    exact o.keep sf (by rw [hu]; exact h1) h2
  have main : ∀ s, (∀ q, SlOk K F' H' (some (V.ref q)) s (some q) ↔ Ob K F' H' q d) → (∀ q, ios[k]? = some (some q) → ∃ c : D, s = .io c) → e' = e.set k s → WOk K F0 Gd ios F' H' σ e' os := fun s hs hi he => by
    subst he
    refine ⟨fh, W.f0.trans sf, fun a o h => ?_, by rw [List.length_set]; exact W.le, by rw [List.length_set]; exact W.lo, fun j t h => ?_, W.ds, fun j q h => ?_, tp, W.ng⟩
    · obtain ⟨h1, h2, h3⟩ := W.gd a o h
      have := keep a o h1 h2 (fun ps z => W.ng a ps (z ▸ h)) fun z => by subst z; exact h3 k hp
      exact ⟨this.1, this.2, h3⟩
    · by_cases z : k = j
      · subst z
        rw [List.getElem?_set_self hk] at h
        cases h
        rw [hv, hp]
        exact (hs p).mpr ob
      · rw [List.getElem?_set_ne z] at h
        have y := W.sl j t h
        cases t with
        | no => exact y
        | fn kf =>
          obtain ⟨a1, b1, c, m, r⟩ := y
          obtain ⟨_, ob0⟩ := W.own hp
          have k := keep _ _ c m LamX.codeO_ne fun y => (ob0.noTab _ (by rw [← y]; exact c)).2 _ rfl
          exact ⟨a1, b1, k.1, k.2, r.mono sf⟩
        | fz c => obtain ⟨a1, x, b1, r⟩ := y; exact ⟨a1, x, b1, r.mono sf⟩
        | ow c => obtain ⟨b, a1, b1, o⟩ := y; exact ⟨b, a1, b1, kOb b c j (join_some a1) (fun q => z q.symm) o⟩
        | io c => obtain ⟨b, a1, b1, o⟩ := y; exact ⟨b, a1, b1, kOb b c j (join_some a1) (fun q => z q.symm) o⟩
    · obtain ⟨h1, c, h2⟩ := W.io j q h
      refine ⟨h1, ?_⟩
      by_cases z : k = j
      · subst z
        obtain ⟨c', rfl⟩ := hi q h
        exact ⟨c', List.getElem?_set_self hk⟩
      · exact ⟨c, by rw [List.getElem?_set_ne z]; exact h2⟩
  unfold wr at hw
  split at hw
  · rename_i c hc
    cases hw
    refine main (.ow d) (fun q => ⟨fun ⟨q', h1, _, h3⟩ => by cases h1; exact h3, fun h => ⟨q, rfl, rfl, h⟩⟩) (fun q h => ?_) rfl
    obtain ⟨_, c2, h2⟩ := W.io k q h
    rw [hc] at h2; cases h2
  · rename_i c hc
    cases hw
    exact main (.io d) (fun q => ⟨fun ⟨q', h1, _, h3⟩ => by cases h1; exact h3, fun h => ⟨q, rfl, rfl, h⟩⟩) (fun q h => ⟨d, rfl⟩) rfl
  · cases hw
theorem WOk.write {k : Nat} {d : D} {p : Addr} {o : HO} {e' : Env} (W : WOk K F0 Gd ios F H σ e os) (hp : os[k]? = some (some p)) (ob : Ob K F (upd H p o) p d) (hw : wr e k d = some e') : WOk K F0 Gd ios F (upd H p o) σ e' os :=
  W.chg hp (Sm.refl _) (fun b u h => by rw [upd_ne (ne_of_none h ob.1)]; exact W.fh b u h) (fun b u h n _ hb => ⟨by rw [upd_ne hb]; exact h, n⟩) ob hw (W.tp.lay (ob.noTup upd_same) (let ⟨_, x⟩ := W.own hp; x.noTab))
end
def asL : D → Option (List D)
  | .lst ds => some ds
  | _ => none
def asI : D → Option Int
  | .int i => some i
  | _ => none
def asB : D → Option Bool
  | .bl i => some i
  | _ => none
def asS : D → Option Str
  | .str i => some i
  | _ => none
def asD : D → Option (List (Key × D))
  | .dic i => some i
  | _ => none
def okB (b : Bool) : Option Unit := if b then some () else none
theorem asL_iff {d : D} {x : List D} (h : asL d = some x) : d = .lst x := by cases d <;> first | (cases h; done) | (cases h; rfl)
theorem asI_iff {d : D} {x : Int} (h : asI d = some x) : d = .int x := by cases d <;> first | (cases h; done) | (cases h; rfl)
theorem asB_iff {d : D} {x : Bool} (h : asB d = some x) : d = .bl x := by cases d <;> first | (cases h; done) | (cases h; rfl)
theorem asS_iff {d : D} {x : Str} (h : asS d = some x) : d = .str x := by cases d <;> first | (cases h; done) | (cases h; rfl)
theorem asD_iff {d : D} {x : List (Key × D)} (h : asD d = some x) : d = .dic x := by cases d <;> first | (cases h; done) | (cases h; rfl)
theorem okB_iff {b : Bool} {u : Unit} (h : okB b = some u) : b = true := by cases b <;> first | rfl | (cases h; done)
/-- xs.append(e), xs an owned name -/
def appM (k : Nat) (m : ME) : ME := fun e => (ownD e k).bind fun c => (asL c).bind fun _ => (m e).bind fun p => (tk p.2 p.1).bind fun q => (ownD q.2 k).bind fun c => (asL c).bind fun ds => (okB (few ds.length)).bind fun _ =>
  (wr q.2 k (.lst (ds ++ [q.1]))).map fun e2 => (.v .non, e2)
theorem Ob.lst {F H : Hp} {p : Addr} {ds : List D} (h : Ob K F H p (.lst ds)) : ∃ xs, H p = some (.lst xs) ∧ RpL K F xs ds := h.2
theorem sim_app {k : Nat} {te : TE} {m : ME} (h : SimE K te m) : SimE K (tBM K "list" rAppend (tVar k) (tCons te tNil)) (appM k m) := ⟨fun {F0 Gd ios F H σ e os l e' Q} W hm q => by
  unfold appM at hm
  obtain ⟨c0, hc0, hm⟩ := Option.bind_eq_some_iff.mp hm
  obtain ⟨ds0, hd0, hm⟩ := Option.bind_eq_some_iff.mp hm
  obtain ⟨⟨l1, e1⟩, h1, hm⟩ := Option.bind_eq_some_iff.mp hm
  obtain ⟨⟨d, e2⟩, h2, hm⟩ := Option.bind_eq_some_iff.mp hm
  obtain ⟨c, hc, hm⟩ := Option.bind_eq_some_iff.mp hm
  obtain ⟨ds, hd, hm⟩ := Option.bind_eq_some_iff.mp hm
  obtain ⟨u, hf, hm⟩ := Option.bind_eq_some_iff.mp hm
  obtain ⟨e3, hw, hm⟩ := Option.map_eq_some_iff.mp hm
  cases hm
  cases asL_iff hd0
  cases asL_iff hd
  have hf := okB_iff hf
  obtain ⟨p, hp, hv, ob⟩ := W.at_ hc0
  obtain ⟨xs0, hx0, _⟩ := ob.lst
  refine ⟨.ref p, hv, .inl ⟨rfl, xs0, .inl (.inl hx0)⟩, ?_⟩
  refine h.run W h1 fun F1 H1 os1 y W1 s1 k1 => ?_
  obtain ⟨F2, os2, W2, s2, r⟩ := W1.take k1 h2
  obtain ⟨p2, hp2, hv2, ob2⟩ := W2.at_ hc
  rw [hv] at hv2; cases hv2
  obtain ⟨xs, hx, rx⟩ := ob2.lst
  refine ⟨p, xs, y, rfl, rfl, hx, by rw [rx.length]; exact few_lt hf, ?_⟩
  have ob3 : Ob K F2 (upd H1 p (.lst (xs ++ [y]))) p (.lst (ds ++ [d])) := ⟨ob2.1, _, upd_same, rx.app (.one r)⟩
  exact q F2 _ os2 .non (W2.write hp2 ob3 hw) (s1.trans s2) Rp.non⟩
/-- xs[i] = e, xs an owned name -/
def setM (k : Nat) (m mi : ME) : MS := fun e => (m e).bind fun p => (tk p.2 p.1).bind fun q => (rdS q.2[k]?).bind fun _ => (mi q.2).bind fun r => (rd r.2 r.1).bind fun i => (asI i).bind fun i => (ownD r.2 k).bind fun c => (asL c).bind fun ds => (ixN ds.length i).bind fun j =>
  (wr r.2 k (.lst (ds.set j q.1))).map fun e2 => (.nx, e2)
theorem sim_setL {k : Nat} {te ti : TE} {m mi : ME} (h : SimE K te m) (hi : SimE K ti mi) : SimS K (tAsg te (gSub (tVar k) ti rSetL)) (setM k m mi) := ⟨fun {F0 Gd ios F H σ e os fl e' G} W hm q => by
  unfold setM at hm
  obtain ⟨⟨l1, e1⟩, h1, hm⟩ := Option.bind_eq_some_iff.mp hm
  obtain ⟨⟨d, e2⟩, h2, hm⟩ := Option.bind_eq_some_iff.mp hm
  obtain ⟨c0, hc0, hm⟩ := Option.bind_eq_some_iff.mp hm
  obtain ⟨⟨l3, e3⟩, h3, hm⟩ := Option.bind_eq_some_iff.mp hm
  obtain ⟨c1, h4, hm⟩ := Option.bind_eq_some_iff.mp hm
  obtain ⟨i, hj, hm⟩ := Option.bind_eq_some_iff.mp hm
  obtain ⟨c, hc, hm⟩ := Option.bind_eq_some_iff.mp hm
  obtain ⟨ds, hd, hm⟩ := Option.bind_eq_some_iff.mp hm
  obtain ⟨j, hx, hm⟩ := Option.bind_eq_some_iff.mp hm
  obtain ⟨e4, hw, hm⟩ := Option.map_eq_some_iff.mp hm
  cases hm
  cases asL_iff hd
  cases asI_iff hj
  refine h.run W h1 fun F1 H1 os1 y W1 s1 k1 => ?_
  obtain ⟨F2, os2, W2, s2, r⟩ := W1.take k1 h2
  obtain ⟨xv, hxv⟩ := W2.val hc0
  refine ⟨xv, hxv, hi.run W2 h3 fun F3 H3 os3 z W3 s3 k3 => ?_⟩
  obtain ⟨p2, hp2, hv2, ob2⟩ := W3.at_ hc
  rw [hxv] at hv2; cases hv2
  obtain ⟨xs, hx2, rx⟩ := ob2.lst
  have hy := (W3.bw k3 h4).isInt
  subst hy
  refine ⟨p2, xs, i, j, rfl, rfl, hx2, by rw [rx.length]; exact hx, ?_⟩
  have ob3 : Ob K F3 (upd H3 p2 (.lst (xs.set j y))) p2 (.lst (ds.set j d)) := ⟨ob2.1, _, upd_same, rx.set (r.mono s3) j⟩
  exact q F3 _ σ os3 (W3.write hp2 ob3 hw) ((s1.trans s2).trans s3)⟩
end Dk
set_option exponentiation.threshold 256
namespace Dk
open PySem PySem.Spec PyProof.Rows L2
variable [TabP]
variable {K : PySem.W.Frag}
def forL (g : MG) (b : MS) : List D → MS
  | [], e => some (.nx, e)
  | d :: r, e => (g d e).bind fun e1 => (b e1).bind fun p => match p.1 with
    | .nx => forL g b r p.2
    | .ct => forL g b r p.2
    | .bk => some (.nx, p.2)
    | f => some (f, p.2)
def forM (mi : MI) (g : MG) (b : MS) : MS := fun e => (mi e).bind fun p => forL g b p.1 p.2
theorem sim_for {wi : TI} {g : TG} {tb : TS} {mi : MI} {js : List Nat} {mg : MG} {b : MS} (hi : SimI K wi mi) (hg : SimG K g js mg) (hb : SimS K tb b) : SimS K (tFor wi g tb) (forM mi mg b) := ⟨fun {F0 Gd ios F H σ e os fl e' G} W hm q => by
  unfold forM at hm
  obtain ⟨⟨ds, e1⟩, h1, hm⟩ := Option.bind_eq_some_iff.mp hm
  refine hi.run W h1 fun F1 H1 os1 J W1 s1 it => ?_
  refine ⟨fun i m σ' H' => ∃ F' os' c, WOk K F0 Gd ios F' H' σ' c os' ∧ Sm F1 F' ∧ forL mg b (ds.drop i) c = some (fl, e') ∧ m = ds.length - i ∧ i ≤ ds.length, ⟨ds.length, F1, os1, e1, W1, Sm.refl _, hm, rfl, Nat.zero_le _⟩, ?_⟩
  rintro i m σ' H' ⟨F', os', c, W', s', hf, rfl, hle⟩
  have J' := it F' H' i s' W'.fh
  by_cases hl : i < ds.length
  · have hd : ds[i]? = some ds[i] := List.getElem?_eq_getElem hl
    obtain ⟨go, yl⟩ := J'.1 _ hd
    rw [List.drop_eq_getElem_cons hl] at hf
    unfold forL at hf
    obtain ⟨e2, h2, hf⟩ := Option.bind_eq_some_iff.mp hf
    obtain ⟨⟨f3, e3⟩, h3, hf⟩ := Option.bind_eq_some_iff.mp hf
    refine .inr ⟨go, fun σ2 H2 => ∃ F2 os2 c2, WOk K F0 Gd ios F2 H2 σ2 c2 os2 ∧ Sm F1 F2 ∧ forL mg b (ds.drop (i + 1)) c2 = some (fl, e'), ?_, ?_⟩
    · rintro σ2 H2 ⟨F2, os2, c2, W2, s2, hf2⟩
      exact ⟨ds.length - (i + 1), by omega, F2, os2, c2, W2, s2, hf2, rfl, hl⟩
    · intro x H2 hy
      obtain ⟨F2, x2, rp⟩ := yl x H2 hy
      refine hg.run (W'.ext x2) rp h2 fun F3 H3 σ3 os3 W3 s3 _ => ?_
      refine hb.run W3 h3 ?_
      have sAll : Sm F1 F3 := (s'.trans x2.f).trans s3
      cases f3 with
      | nx => exact fun F4 H4 σ4 os4 W4 s4 => ⟨F4, os4, e3, W4, sAll.trans s4, hf⟩
      | ct => exact fun F4 H4 σ4 os4 W4 s4 => ⟨F4, os4, e3, W4, sAll.trans s4, hf⟩
      | bk => cases hf; exact fun F4 H4 σ4 os4 W4 s4 => q F4 H4 σ4 os4 W4 ((s1.trans sAll).trans s4)
      | rt d => cases hf; exact fun F4 H4 σ4 os4 x W4 s4 r => q F4 H4 σ4 os4 x W4 ((s1.trans sAll).trans s4) r
      | rn d => cases hf; exact fun F4 H4 σ4 os4 p W4 s4 o a b c => q F4 H4 σ4 os4 p W4 ((s1.trans sAll).trans s4) o a b c
  · have hn : ds.length ≤ i := Nat.le_of_not_lt hl
    rw [List.drop_of_length_le hn] at hf
    cases hf
    exact .inl ⟨J'.2 (Nat.le_antisymm hle hn), q F' H' σ' os' W' (s1.trans s')⟩⟩
/-- a list, a tuple: frozen while it is walked -/
def itL (m : ME) : MI := fun e => (m e).bind fun p => (tk p.2 p.1).bind fun q => (asL q.1).map fun ds => (ds, q.2)
theorem it_list {F : Hp} {a : Addr} {xs : List V} {ds : List D} (h : SqL K F a xs) (r : RpL K F xs ds) : ItOk K F (Itl K a) ds := fun F' H i s1 s2 =>
  ⟨fun d hd => by
    obtain ⟨y, hy, ry⟩ := r.get hd
    have hs := s2.seq (s1.seq h)
    refine ⟨⟨xs, y, hs, hy⟩, fun x H' hq => ?_⟩
    obtain ⟨rfl, hx⟩ := hq
    have := hx xs hs
    rw [hy] at this; cases this
    exact ⟨F', Ext.refl s2, ry.mono s1⟩, fun hn => ⟨xs, s2.seq (s1.seq h), by rw [r.length]; exact Nat.le_of_eq hn.symm⟩⟩
theorem it_tup {F : Hp} {a : Addr} {xs : List V} {ds : List D} (h : SqT K F a xs) (r : RpL K F xs ds) : ItOk K F (Itt K a) ds := fun F' H i s1 s2 =>
  ⟨fun d hd => by
    obtain ⟨y, hy, ry⟩ := r.get hd
    have hs := seqT (.of s2) (seqT s1 h)
    refine ⟨⟨xs, y, hs, hy⟩, fun x H' hq => ?_⟩
    obtain ⟨rfl, hx⟩ := hq
    have := hx xs hs
    rw [hy] at this; cases this
    exact ⟨F', Ext.refl s2, ry.mono s1⟩, fun hn => ⟨xs, seqT (.of s2) (seqT s1 h), by rw [r.length]; exact Nat.le_of_eq hn.symm⟩⟩
theorem sim_itL {t : TE} {m : ME} (h : SimE K t m) : SimI K (iList K t) (itL m) := ⟨fun {F0 Gd ios F H σ e os ds e' R} W hm q => by
  unfold itL at hm
  obtain ⟨⟨l, e1⟩, h1, hm⟩ := Option.bind_eq_some_iff.mp hm
  obtain ⟨⟨d, e2⟩, h2, hm⟩ := Option.bind_eq_some_iff.mp hm
  obtain ⟨ds2, h3, hm⟩ := Option.map_eq_some_iff.mp hm
  cases hm
  cases asL_iff h3
  refine h.run W h1 fun F1 H1 os1 x W1 s1 k1 => ?_
  obtain ⟨F2, os2, W2, s2, r⟩ := W1.take k1 h2
  cases r with
  | lst hs r => exact ⟨_, rfl, ⟨_, .inl (.inl (W2.fh _ _ hs))⟩, q F2 H1 os2 _ W2 (s1.trans s2) (it_list (.inl (.inl hs)) r)⟩⟩
/-- the signs of a text -/
def signs (x : Str) : List D := x.cps.toList.map fun c => D.str ⟨#[c]⟩
def itS (m : ME) : MI := fun e => (m e).bind fun p => (rd p.2 p.1).bind fun d => (asS d).map fun x => (signs x, p.2)
theorem it_str {F : Hp} (x : Str) : ItOk K F (Its x) (signs x) := fun F' H i s1 s2 =>
  ⟨fun d hd => by
    unfold signs at hd
    rw [List.getElem?_map] at hd
    obtain ⟨c, hc, rfl⟩ := Option.map_eq_some_iff.mp hd
    have hl : i < x.cps.size := by simpa using (List.getElem?_eq_some_iff.mp hc).1
    refine ⟨hl, fun v H' hq => ?_⟩
    obtain ⟨rfl, c2, h2, rfl⟩ := hq
    rw [← Array.getElem?_toList, hc] at h2
    cases h2
    exact ⟨F', Ext.refl s2, .str _⟩, fun hn => by
    unfold signs at hn
    rw [List.length_map, Array.length_toList] at hn
    exact Nat.le_of_eq hn.symm⟩
theorem sim_itS {t : TE} {m : ME} (h : SimE K t m) : SimI K (iStr t) (itS m) := ⟨fun {F0 Gd ios F H σ e os ds e' R} W hm q => by
  unfold itS at hm
  obtain ⟨⟨l, e1⟩, h1, hm⟩ := Option.bind_eq_some_iff.mp hm
  obtain ⟨d, h2, hm⟩ := Option.bind_eq_some_iff.mp hm
  obtain ⟨x, h3, hm⟩ := Option.map_eq_some_iff.mp hm
  cases hm
  cases asS_iff h3
  exact h.run W h1 fun F1 H1 os1 y W1 s1 k1 => ⟨x, (W1.bw k1 h2).isStr, q F1 H1 os1 _ W1 s1 (it_str x)⟩⟩
def rangeD (lo : Int) (n : Nat) : List D := (List.range n).map fun (i : Nat) => D.int (lo + i)
theorem it_range {F : Hp} (lo : Int) (n : Nat) : ItOk K F (Itr lo n) (rangeD lo n) := fun F' H i s1 s2 =>
  ⟨fun d hd => by
    unfold rangeD at hd
    rw [List.getElem?_map] at hd
    obtain ⟨c, hc, rfl⟩ := Option.map_eq_some_iff.mp hd
    obtain ⟨h1, h2⟩ := List.getElem?_eq_some_iff.mp hc
    rw [List.getElem_range] at h2
    rw [List.length_range] at h1
    subst h2
    refine ⟨h1, fun v H' hq => ?_⟩
    obtain ⟨rfl, rfl⟩ := hq
    exact ⟨F', Ext.refl s2, .int _⟩, fun hn => by
    unfold rangeD at hn
    rw [List.length_map, List.length_range] at hn
    exact Nat.le_of_eq hn.symm⟩
def rgOk (i : Int) : Bool := decide (-(2 ^ 62) ≤ i) && decide (i < 2 ^ 62)
def itR1 (m : MA) : MI := fun e => (m e).bind fun p => (rds p.2 p.1).bind fun ds => match ds with
  | [a] => (asI a).bind fun n => (okB (rgOk n)).map fun _ => (rangeD 0 n.toNat, p.2)
  | _ => none
def itR2 (m : MA) : MI := fun e => (m e).bind fun p => (rds p.2 p.1).bind fun ds => match ds with
  | [a, b] => (asI a).bind fun i => (asI b).bind fun j => (okB (rgOk i && rgOk j)).map fun _ => (rangeD i (j - i).toNat, p.2)
  | _ => none
theorem sim_itR1 {t : TA} {m : MA} (h : SimA K t m) : SimI K (iRng1 t) (itR1 m) := ⟨fun {F0 Gd ios F H σ e os ds e' R} W hm q => by
  unfold itR1 at hm
  obtain ⟨⟨ls, e1⟩, h1, hm⟩ := Option.bind_eq_some_iff.mp hm
  obtain ⟨ds1, h2, hm⟩ := Option.bind_eq_some_iff.mp hm
  refine h.run W h1 fun F1 H1 os1 xs W1 s1 k1 => ?_
  have b := W1.bwL k1 h2
  simp only at hm
  split at hm
  · cases b with
    | cons b1 b =>
      cases b
      obtain ⟨n, h3, hm⟩ := Option.bind_eq_some_iff.mp hm
      obtain ⟨u, h4, hm⟩ := Option.map_eq_some_iff.mp hm
      cases hm
      cases asI_iff h3
      cases b1.isInt
      have z := Bool.and_eq_true_iff.mp (okB_iff h4)
      exact ⟨n, rfl, of_decide_eq_true z.1, of_decide_eq_true z.2, q F1 H1 os1 _ W1 s1 (it_range 0 _)⟩
  · cases hm⟩
theorem sim_itR2 {t : TA} {m : MA} (h : SimA K t m) : SimI K (iRng2 t) (itR2 m) := ⟨fun {F0 Gd ios F H σ e os ds e' R} W hm q => by
  unfold itR2 at hm
  obtain ⟨⟨ls, e1⟩, h1, hm⟩ := Option.bind_eq_some_iff.mp hm
  obtain ⟨ds1, h2, hm⟩ := Option.bind_eq_some_iff.mp hm
  refine h.run W h1 fun F1 H1 os1 xs W1 s1 k1 => ?_
  have b := W1.bwL k1 h2
  simp only at hm
  split at hm
  · cases b with
    | cons b1 b =>
      cases b with
      | cons b2 b =>
        cases b
        obtain ⟨n, h3, hm⟩ := Option.bind_eq_some_iff.mp hm
        obtain ⟨n2, h5, hm⟩ := Option.bind_eq_some_iff.mp hm
        obtain ⟨u, h4, hm⟩ := Option.map_eq_some_iff.mp hm
        cases hm
        cases asI_iff h3
        cases asI_iff h5
        cases b1.isInt
        cases b2.isInt
        have z := Bool.and_eq_true_iff.mp (okB_iff h4)
        have z1 := Bool.and_eq_true_iff.mp z.1
        have z2 := Bool.and_eq_true_iff.mp z.2
        exact ⟨n, n2, rfl, ⟨of_decide_eq_true z1.1, of_decide_eq_true z1.2, of_decide_eq_true z2.1, of_decide_eq_true z2.2⟩, q F1 H1 os1 _ W1 s1 (it_range _ _)⟩
  · cases hm⟩
end Dk
set_option exponentiation.threshold 256
namespace Dk
open PySem PySem.Spec PyProof.Rows L2
variable [TabP]
variable {K : PySem.W.Frag}
def putNo (i : Nat) (e : Env) : Option Env := match e[i]? with
  | some (.io _) => none
  | some _ => some (e.set i .no)
  | none => none
def wipeE (e : Env) : List Nat → Option Env
  | [] => some e
  | v :: vs => (wipeE e vs).bind fun c => putNo v c
section
variable {F0 Gd F H : Hp} {ios os : List (Option Addr)} {σ : L2.St} {e : Env}
theorem WOk.putNo {i : Nat} {e' : Env} (W : WOk K F0 Gd ios F H σ e os) (h : putNo i e = some e') : WOk K F0 Gd ios F H (σ.set i none) e' (os.set i none) := by
  unfold Dk.putNo at h
  split at h
  · cases h
  · rename_i s hs hn
    cases h
    exact W.put (List.getElem?_eq_some_iff.mp hn).1 (W.noIo hn fun d z => hs d z) rfl fun p q => nomatch q
  · cases h
theorem WOk.wipe : ∀ {vs : List Nat} {e' : Env}, WOk K F0 Gd ios F H σ e os → wipeE e vs = some e' → ∃ os', WOk K F0 Gd ios F H (L2.wipe σ vs) e' os'
  | [], e', W, h => by cases h; exact ⟨os, W⟩
  | v :: vs, e', W, h => by
    obtain ⟨c, h1, h2⟩ := Option.bind_eq_some_iff.mp h
    obtain ⟨os1, W1⟩ := WOk.wipe W h1
    exact ⟨_, W1.putNo h2⟩
theorem putNo_get {i j : Nat} {e e' : Env} (h : Dk.putNo i e = some e') : e'[j]? = if i = j then some .no else e[j]? := by
  unfold Dk.putNo at h
  split at h
  · cases h
  · rename_i s hs hn
    cases h
    by_cases z : i = j
    · subst z; rw [if_pos rfl, List.getElem?_set_self (List.getElem?_eq_some_iff.mp hn).1]
    · rw [if_neg z, List.getElem?_set_ne z]
  · cases h
theorem wipeE_no : ∀ {vs : List Nat} {e e' : Env}, wipeE e vs = some e' → ∀ v ∈ vs, e'[v]? = some .no
  | v :: vs, e, e', h, u, hu => by
    obtain ⟨c, h1, h2⟩ := Option.bind_eq_some_iff.mp h
    rw [putNo_get h2]
    by_cases z : v = u
    · rw [if_pos z]
    · rw [if_neg z]
      rcases List.mem_cons.mp hu with q | q
      · exact absurd q.symm z
      · exact wipeE_no h1 u q
theorem wipe_get (σ : L2.St) (j : Nat) : ∀ vs : List Nat, j ∉ vs → (L2.wipe σ vs)[j]? = σ[j]?
  | [], _ => rfl
  | v :: vs, h => by
    show ((L2.wipe σ vs).set v none)[j]? = σ[j]?
    rw [List.getElem?_set_ne (fun z => h (by rw [z]; exact List.mem_cons_self)), wipe_get σ j vs fun z => h (List.mem_cons_of_mem _ z)]
theorem wipe_in (σ : L2.St) (j : Nat) (hj : j < σ.length) : ∀ vs : List Nat, j ∈ vs → (L2.wipe σ vs)[j]? = some none
  | v :: vs, h => by
    show ((L2.wipe σ vs).set v none)[j]? = some none
    by_cases z : v = j
    · subst z; rw [List.getElem?_set_self (by rw [wipe_length]; exact hj)]
    · rw [List.getElem?_set_ne z]
      rcases List.mem_cons.mp h with q | q
      · exact absurd q.symm z
      · exact wipe_in σ j hj vs q
theorem wipe_but {σ σ' : L2.St} {js vs : List Nat} (b : But js (L2.wipe σ vs) σ') (hj : ∀ j ∈ js, j ∈ vs) : L2.wipe σ' vs = L2.wipe σ vs := by
  refine List.ext_getElem? fun i => ?_
  have hl : σ'.length = σ.length := by rw [b.1, wipe_length]
  by_cases h : i ∈ vs
  · by_cases hi : i < σ.length
    · rw [wipe_in σ' i (by rw [hl]; exact hi) vs h, wipe_in σ i hi vs h]
    · rw [List.getElem?_eq_none (by rw [wipe_length, hl]; exact Nat.le_of_not_lt hi), List.getElem?_eq_none (by rw [wipe_length]; exact Nat.le_of_not_lt hi)]
  · rw [wipe_get σ' i vs h, b.2 i fun z => h (hj i z)]
/-- the slots of a block are forgotten behind it -/
theorem WOk.unwipe {vs : List Nat} (W : WOk K F0 Gd ios F H (L2.wipe σ vs) e os) (h : ∀ v ∈ vs, e[v]? = some .no) : WOk K F0 Gd ios F H σ e os where
  fh := W.fh
  f0 := W.f0
  gd := W.gd
  le := by rw [← W.le, wipe_length]
  lo := W.lo
  sl := fun i s hs => by
    by_cases z : i ∈ vs
    · rw [h i z] at hs
      cases hs
      exact W.sl i .no (h i z)
    · have := W.sl i s hs
      rw [wipe_get σ i vs z] at this
      exact this
  ds := W.ds
  io := W.io
  tp := W.tp
  ng := W.ng
/-- a guarded object is written by its guard -/
theorem WOk.guard {p : Addr} {o o' : HO} (W : WOk K F0 (upd Gd p o) ios F H σ e os) (ht : ∀ xs, o' ≠ .tup xs := by intro _ z; cases z) (hb : ∀ ps, o' ≠ .tbl ps := by intro _ z; cases z) (hx : ∀ f, o ≠ .ext f := by intro _ z; cases z) : WOk K F0 (upd Gd p o') ios F (upd H p o') σ e os := by
  obtain ⟨hp, hf, hn⟩ := W.gd p o upd_same
  have fh : Same F (upd H p o') := fun b u h => by rw [upd_ne (ne_of_none h hf)]; exact W.fh b u h
  have kOb : ∀ b c (j : Nat), os[j]?.join = some b → Ob K F H b c → Ob K F (upd H p o') b c := fun b c j hj ob =>
    ob.keep (Sm.refl _) (upd_ne fun z => by subst z; exact hn j (join_some hj)) ob.1
  refine ⟨fh, W.f0, fun a u h => ?_, W.le, W.lo, fun j t h => ?_, W.ds, W.io, W.tp.lay ht (fun u z => by rw [hp] at z; cases z; exact ⟨fun ps z => W.ng p ps (by rw [upd_same, z]), hx⟩), fun a ps z => ?_⟩
  · by_cases z : a = p
    · subst z
      rw [upd_same] at h; cases h
      exact ⟨upd_same, hf, hn⟩
    · rw [upd_ne z] at h
      obtain ⟨h1, h2, h3⟩ := W.gd a u (by rw [upd_ne z]; exact h)
      exact ⟨by rw [upd_ne z]; exact h1, h2, h3⟩
  · have y := W.sl j t h
    cases t with
    | no => exact y
    | fn kf => obtain ⟨a1, b1, c, m, r⟩ := y; exact ⟨a1, b1, by rw [upd_ne fun y => hx _ (Option.some.inj (hp.symm.trans (by rw [← y]; exact c)))]; exact c, m, r⟩
    | fz c => exact y
    | ow c => obtain ⟨b, a1, b1, ob⟩ := y; exact ⟨b, a1, b1, kOb b c j a1 ob⟩
    | io c => obtain ⟨b, a1, b1, ob⟩ := y; exact ⟨b, a1, b1, kOb b c j a1 ob⟩
  · by_cases y : a = p
    · subst y; rw [upd_same] at z; cases z; exact hb ps rfl
    · rw [upd_ne y] at z; exact W.ng a ps (by rw [upd_ne y]; exact z)
/-- a new object is put under guard -/
theorem WOk.guardNew {p : Addr} {o : HO} (W : WOk K F0 Gd ios F H σ e os) (n : H p = none) (ht : ∀ xs, o ≠ .tup xs := by intro _ z; cases z) (hb : ∀ ps, o ≠ .tbl ps := by intro _ z; cases z) : WOk K F0 (upd Gd p o) ios F (upd H p o) σ e os := by
  have W1 : WOk K F0 Gd ios F (upd H p o) σ e os := W.ext ⟨Sm.refl _, fun a x e _ _ => Same.new n a x e, W.fh.trans (Same.new n), fun _ _ _ h _ => h, fun z => z.lay ht (.new n)⟩
  refine { W1 with gd := fun a u h => ?_, ng := fun a ps h => ?_ }
  · by_cases z : a = p
    · subst z
      rw [upd_same] at h; cases h
      exact ⟨upd_same, W.fh.free n, W.notOwn n⟩
    · rw [upd_ne z] at h
      exact W1.gd a u h
  · by_cases z : a = p
    · subst z; rw [upd_same] at h; cases h; exact hb ps rfl
    · rw [upd_ne z] at h; exact W.ng a ps h
theorem WOk.unguard {p : Addr} {o : HO} (W : WOk K F0 (upd Gd p o) ios F H σ e os) (g : Gd p = none) : WOk K F0 Gd ios F H σ e os :=
  { W with gd := fun a u h => W.gd a u (by rw [upd_ne (ne_of_none h g)]; exact h), ng := fun a ps h => W.ng a ps (by rw [upd_ne (ne_of_none h g)]; exact h) }
end
def cpL (g : MG) (t : MT) (m : ME) (vs : List Nat) : List D → Env → List D → Option (List D × Env)
  | [], e, acc => some (acc, e)
  | d :: r, e, acc => (g d e).bind fun e1 => (t e1).bind fun p => if p.1 = true then (m p.2).bind fun q => (tk q.2 q.1).bind fun z => (okB (few acc.length)).bind fun _ => (wipeE z.2 vs).bind fun c => cpL g t m vs r c (acc ++ [z.1])
    else (wipeE p.2 vs).bind fun c => cpL g t m vs r c acc
def cpM (mi : MI) (g : MG) (t : MT) (m : ME) (vs : List Nat) : MN := fun e => (mi e).bind fun p => (wipeE p.2 vs).bind fun c => (cpL g t m vs p.1 c []).map fun r => (.lst r.1, r.2)
def yesM : MT := fun e => some (true, e)
theorem sim_yes : SimT K tYes yesM := ⟨fun {F0 Gd ios F H σ e os b e' Q} W hm q => by cases hm; exact q F H os W (Sm.refl _)⟩
theorem sim_lc {wi : TI} {g : TG} {tt : TT} {te : TE} {vs js : List Nat} {mi : MI} {mg : MG} {mt : MT} {m : ME} (hi : SimI K wi mi) (hg : SimG K g js mg) (ht : SimT K tt mt) (he : SimE K te m) (hj : ∀ j ∈ js, j ∈ vs) :
    SimN K (tLc wi g tt te vs) (cpM mi mg mt m vs) := ⟨fun {F0 Gd ios F H σ e os dres e' Q} W hm q => by
  unfold cpM at hm
  obtain ⟨⟨ds, e1⟩, h1, hm⟩ := Option.bind_eq_some_iff.mp hm
  obtain ⟨c0, h2, hm⟩ := Option.bind_eq_some_iff.mp hm
  obtain ⟨⟨res, ef⟩, h3, hm⟩ := Option.map_eq_some_iff.mp hm
  cases hm
  refine hi.run W h1 fun F1 H1 os1 J W1 s1 it => ?_
  intro P nP
  obtain ⟨os2, W2⟩ := W1.wipe h2
  have gP : Gd P = none := W1.noGd nP
  refine ⟨fun i n Hc => ∃ F' os' c av ad, WOk K F0 (upd Gd P (.lst av)) ios F' Hc (L2.wipe σ vs) c os' ∧ Sm F1 F' ∧ RpL K F' av ad ∧ (∀ v ∈ vs, c[v]? = some .no) ∧ cpL mg mt m vs (ds.drop i) c ad = some (res, ef) ∧ n = ds.length - i ∧ i ≤ ds.length,
    ⟨ds.length, F1, os2, c0, [], [], W2.guardNew nP, Sm.refl _, .nil, wipeE_no h2, h3, rfl, Nat.zero_le _⟩, ?_⟩
  rintro i n Hc ⟨F', os', c, av, ad, W', s', ra, hno, hf, rfl, hle⟩
  have J' := it F' Hc i s' W'.fh
  by_cases hl : i < ds.length
  · have hd : ds[i]? = some ds[i] := List.getElem?_eq_getElem hl
    obtain ⟨go, yl⟩ := J'.1 _ hd
    rw [List.drop_eq_getElem_cons hl] at hf
    unfold cpL at hf
    obtain ⟨e2, k2, hf⟩ := Option.bind_eq_some_iff.mp hf
    obtain ⟨⟨b3, e3⟩, k3, hf⟩ := Option.bind_eq_some_iff.mp hf
    refine .inr ⟨go, fun H2 => ∃ F2 os2 c2 av ad, WOk K F0 (upd Gd P (.lst av)) ios F2 H2 (L2.wipe σ vs) c2 os2 ∧ Sm F1 F2 ∧ RpL K F2 av ad ∧ (∀ v ∈ vs, c2[v]? = some .no) ∧ cpL mg mt m vs (ds.drop (i + 1)) c2 ad = some (res, ef), ?_, ?_⟩
    · rintro H2 ⟨F2, os2, c2, av2, ad2, W2, s2, r2, n2, f2⟩
      exact ⟨ds.length - (i + 1), by omega, F2, os2, c2, av2, ad2, W2, s2, r2, n2, f2, rfl, hl⟩
    · intro x H2 hy
      obtain ⟨F2, x2, rp⟩ := yl x H2 hy
      refine hg.run (W'.ext x2) rp k2 fun F3 H3 σ3 os3 W3 s3 b3' => ?_
      have wb : L2.wipe σ3 vs = L2.wipe σ vs := wipe_but b3' hj
      refine ⟨wb, ht.run W3 k3 fun F4 H4 os4 W4 s4 => ?_⟩
      have sAll : Sm F' F4 := (x2.f.trans s3).trans s4
      cases b3 with
      | false =>
        refine iteF ?_
        rw [if_neg Bool.false_ne_true] at hf
        obtain ⟨c5, k5, hf⟩ := Option.bind_eq_some_iff.mp hf
        obtain ⟨os5, W5⟩ := W4.wipe k5
        rw [wb] at W5
        exact ⟨F4, os5, c5, av, ad, W5, s'.trans sAll, ra.mono sAll, wipeE_no k5, hf⟩
      | true =>
        refine iteT ?_
        rw [if_pos rfl] at hf
        obtain ⟨⟨l5, e5⟩, k5, hf⟩ := Option.bind_eq_some_iff.mp hf
        obtain ⟨⟨d6, e6⟩, k6, hf⟩ := Option.bind_eq_some_iff.mp hf
        obtain ⟨u7, k7, hf⟩ := Option.bind_eq_some_iff.mp hf
        obtain ⟨c8, k8, hf⟩ := Option.bind_eq_some_iff.mp hf
        refine he.run W4 k5 fun F5 H5 os5 y W5 s5 l5' => ?_
        obtain ⟨F6, os6, W6, s6, r6⟩ := W5.take l5' k6
        have sA2 : Sm F' F6 := (sAll.trans s5).trans s6
        refine ⟨av, (W6.gd P _ upd_same).1, by rw [ra.length]; exact few_lt (okB_iff k7), ?_⟩
        obtain ⟨os8, W8⟩ := (W6.guard (o' := .lst (av ++ [y]))).wipe k8
        rw [wb] at W8
        exact ⟨F6, os8, c8, _, _, W8, s'.trans sA2, (ra.mono sA2).app (.one r6), wipeE_no k8, hf⟩
  · have hn : ds.length ≤ i := Nat.le_of_not_lt hl
    rw [List.drop_of_length_le hn] at hf
    cases hf
    obtain ⟨g1, g2, g3⟩ := W'.gd P _ upd_same
    refine .inl ⟨J'.2 (Nat.le_antisymm hle hn), q F' Hc os' P ((W'.unguard gP).unwipe hno) (s1.trans s') ⟨⟨g2, av, g1, ra⟩, gP, g3⟩⟩⟩
end Dk
set_option exponentiation.threshold 256
namespace Dk
open PySem PySem.Spec PyProof.Rows L2
variable [TabP]
variable {K : PySem.W.Frag}
/-- what a caller gets of a def's end -/
def RtOk (K : PySem.W.Frag) (H F' H' : Hp) (Q : VK) : Fl → Prop
  | .nx => Q .non H'
  | .rt d => ∀ x, Rp K F' x d → Q x H'
  | .rn d => ∀ p, H p = none → Ob K F' H' p d → Q (.ref p) H'
  | _ => False
structure ArgOk (K : PySem.W.Frag) (F H : Hp) (vs : List V) (a : Env) (os : List (Option Addr)) : Prop where
  fh : Same F H
  lv : vs.length = a.length
  lo : os.length = a.length
  sl : ∀ (i : Nat) s, a[i]? = some s → (∀ d, s ≠ .ow d) ∧ SlOk K F H vs[i]? s (os[i]?.join)
  ds : ∀ (i j : Nat) p, os[i]? = some (some p) → os[j]? = some (some p) → i = j
  tp : Tp F H
def spD (K : PySem.W.Frag) (m : MS) (vs : List V) (H : Hp) (Q : VK) : Prop := ∃ F a os fl a', ArgOk K F H vs a os ∧ m a = some (fl, a') ∧
  ∀ F' H', Sm F F' → Same F' H' → (∀ b o, H b = some o → F b = none → (∀ ps, o ≠ .tbl ps) → (∀ i : Nat, os[i]? ≠ some (some b)) → H' b = some o ∧ F' b = none) →
    (∀ (i : Nat) p, os[i]? = some (some p) → ∃ d, a'[i]? = some (.io d) ∧ Ob K F' H' p d) → Tp F' H' → RtOk K H F' H' Q fl
def fnM (n k : Nat) (body : MS) : MS := fun a => if a.length = n then body (a ++ List.replicate k .no) else none
theorem fnM_len {n k : Nat} {body : MS} {vs : List V} {H : Hp} {Q : VK} (h : spD K (fnM n k body) vs H Q) : vs.length = n := by
  obtain ⟨F, a, os, fl, a', A, hm, _⟩ := h
  unfold fnM at hm
  split at hm
  · rename_i q; rw [A.lv]; exact q
  · cases hm
open Classical in
noncomputable def gdOf (F H : Hp) (os : List (Option Addr)) : Hp := fun b => if F b = none ∧ (∀ ps, H b ≠ some (.tbl ps)) ∧ ∀ i : Nat, os[i]? ≠ some (some b) then H b else none
theorem gdOf_iff {F H : Hp} {os : List (Option Addr)} {b : Addr} {o : HO} (h : gdOf F H os b = some o) : H b = some o ∧ F b = none ∧ ∀ i : Nat, os[i]? ≠ some (some b) := by
  unfold gdOf at h
  split at h
  · rename_i q; exact ⟨h, q.1, q.2.2⟩
  · cases h
theorem gdOf_of {F H : Hp} {os : List (Option Addr)} {b : Addr} (h1 : F b = none) (h2 : ∀ i : Nat, os[i]? ≠ some (some b)) (h3 : ∀ ps, H b ≠ some (.tbl ps)) : gdOf F H os b = H b := by
  unfold gdOf
  rw [if_pos ⟨h1, h3, h2⟩]
theorem gdOf_nt {F H : Hp} {os : List (Option Addr)} (b : Addr) (ps : Array Value) : gdOf F H os b ≠ some (.tbl ps) := fun h => by
  unfold gdOf at h
  split at h
  · rename_i q; exact q.2.1 ps h
  · cases h
theorem fn_sim {t : TS} {m : MS} {N : List Str} {vs : List V} {n k : Nat} {H : Hp} {Q : VK} (h : SimS K t m) (hk : N.length - vs.length = k) (hs : spD K (fnM n k m) vs H Q) {B : Hp → Prop} (hB : ∀ H' F' p d, B H' → Ob K F' H' p d → ∀ ps, H p ≠ some (.tbl ps)) : t { nx := fun _ H' => Q .non H', rt := fun v H' => B H' → Q v H' } (L2.start N vs) H := by
  obtain ⟨F, a, os, fl, a', A, hm, post⟩ := hs
  have hm : m (a ++ List.replicate k .no) = some (fl, a') := by
    unfold fnM at hm
    split at hm
    · exact hm
    · cases hm
  have ga : ∀ (i : Nat), i < a.length → (a ++ List.replicate k Sl.no)[i]? = a[i]? := fun i hi => List.getElem?_append_left hi
  have go : ∀ (i : Nat) p, (os ++ List.replicate k none)[i]? = some (some p) → os[i]? = some (some p) := fun i p q => by
    by_cases hi : i < os.length
    · rw [List.getElem?_append_left hi] at q; exact q
    · rw [List.getElem?_append_right (Nat.le_of_not_lt hi), List.getElem?_replicate] at q
      split at q <;> cases q
  have W : WOk K F (gdOf F H os) os F H (L2.start N vs) (a ++ List.replicate k .no) (os ++ List.replicate k none) := by
    unfold L2.start
    rw [hk]
    refine ⟨A.fh, Sm.refl _, fun b o q => ?_, ?_, ?_, fun i s q => ?_, fun i j p q1 q2 => A.ds i j p (go i p q1) (go j p q2), fun i p q => ?_, A.tp, gdOf_nt⟩
    · obtain ⟨h1, h2, h3⟩ := gdOf_iff q
      exact ⟨h1, h2, fun i z => h3 i (go i b z)⟩
    · rw [List.length_append, List.length_append, List.length_map, List.length_replicate, List.length_replicate, A.lv]
    · rw [List.length_append, List.length_append, List.length_replicate, List.length_replicate, A.lo]
    · by_cases hi : i < a.length
      · rw [ga i hi] at q
        have z := (A.sl i s q).2
        rw [List.getElem?_append_left (by rw [List.length_map, A.lv]; exact hi), List.getElem?_append_left (by rw [A.lo]; exact hi), List.getElem?_map]
        have e : ((vs[i]?).map some).join = vs[i]? := by cases vs[i]? <;> rfl
        rw [e]
        exact z
      · have hi := Nat.le_of_not_lt hi
        rw [List.getElem?_append_right hi, List.getElem?_replicate] at q
        split at q
        · cases q
          rw [List.getElem?_append_right (l₁ := os) (by rw [A.lo]; exact hi), List.getElem?_replicate]
          show Option.join _ = none
          split <;> rfl
        · cases q
    · have hi : i < a.length := by rw [← A.lo]; exact (List.getElem?_eq_some_iff.mp q).1
      refine ⟨by rw [List.getElem?_append_left (by rw [A.lo]; exact hi)]; exact q, ?_⟩
      rw [ga i hi]
      have hs : a[i]? = some a[i] := List.getElem?_eq_getElem hi
      have z := A.sl i _ hs
      rw [q] at z
      rw [hs]
      cases y : a[i] with
      | no => rw [y] at z; cases z.2
      | fn kf => rw [y] at z; exact nomatch z.2.1
      | fz d => rw [y] at z; exact nomatch z.2.1
      | ow d => exact absurd y (z.1 d)
      | io d => exact ⟨d, rfl⟩
  have go2 : ∀ {F' H' : Hp} {σ' : L2.St} {os' : List (Option Addr)}, WOk K F (gdOf F H os) os F' H' σ' a' os' → RtOk K H F' H' Q fl := fun {F' H' σ' os'} W' =>
    post F' H' W'.f0 W'.fh (fun b o h1 h2 hk h3 => by
      obtain ⟨q1, q2, _⟩ := W'.gd b o (by rw [gdOf_of h2 h3 fun ps z => hk ps (Option.some.inj (h1.symm.trans z))]; exact h1)
      exact ⟨q1, q2⟩) (fun i p q => by
      obtain ⟨q1, d, q2⟩ := W'.io i p q
      refine ⟨d, q2, ?_⟩
      obtain ⟨p2, h1, h2, ob⟩ := W'.sl i _ q2
      rw [q1] at h1; cases h1
      exact ob) W'.tp
  refine h.run W hm ?_
  cases fl with
  | nx => exact fun F' H' σ' os' W' _ => go2 W'
  | bk => exact fun F' H' σ' os' W' _ => go2 W'
  | ct => exact fun F' H' σ' os' W' _ => go2 W'
  | rt d => exact fun F' H' σ' os' x W' _ r _ => go2 W' x r
  | rn d => exact fun F' H' σ' os' p W' _ ob g f i bb => go2 W' p (by
      cases z : H p with
      | none => rfl
      | some o => rw [gdOf_of f i (hB H' F' p d bb ob), z] at g; cases g) ob
/-- tables stay tables -/
def TbK (H H' : Hp) : Prop := ∀ b ps, H b = some (.tbl ps) → ∃ more, H' b = some (.tbl (ps ++ more))
theorem tbK_ob {H : Hp} (H' F' : Hp) (p : Addr) (d : D) (t : TbK H H') (ob : Ob K F' H' p d) (ps : Array Value) : H p ≠ some (.tbl ps) := fun z => by
  obtain ⟨_, q⟩ := t p ps z
  exact (ob.noTab _ q).1 _ rfl
def tCallD (K : PySem.W.Frag) (m : MS) (t : TA) : TE := fun σ H Q => t σ H fun vs H1 => spD K m vs H1 Q
def resV : Fl → Option D
  | .rt d => some d
  | .rn d => some d
  | .nx => some .non
  | _ => none
def resN : Fl → Option D
  | .rn d => some d
  | _ => none
def callM (m : MS) (ma : MA) : ME := fun e => (ma e).bind fun p => (tks p.2 p.1).bind fun q => (m (q.1.map .fz)).bind fun r => (resV r.1).map fun d => (.v d, q.2)
def callN (m : MS) (ma : MA) : MN := fun e => (ma e).bind fun p => (tks p.2 p.1).bind fun q => (m (q.1.map .fz)).bind fun r => (resN r.1).map fun d => (d, q.2)
theorem args_pure {F H : Hp} {xs : List V} {ds : List D} (s : Same F H) (tp : Tp F H) (r : RpL K F xs ds) : ArgOk K F H xs (ds.map .fz) (ds.map fun _ => none) where
  fh := s
  lv := by rw [r.length, List.length_map]
  lo := by rw [List.length_map, List.length_map]
  sl := fun i t h => by
    rw [List.getElem?_map] at h
    obtain ⟨d, hd, rfl⟩ := Option.map_eq_some_iff.mp h
    refine ⟨fun _ z => (nomatch z), ?_⟩
    rw [List.getElem?_map, hd]
    obtain ⟨y, hy, ry⟩ := r.get hd
    exact ⟨rfl, y, hy, ry⟩
  ds := fun i j p h _ => by
    rw [List.getElem?_map] at h
    obtain ⟨d, _, h⟩ := Option.map_eq_some_iff.mp h
    cases h
  tp := tp
theorem noneOs {ds : List D} (b : Addr) (i : Nat) : (ds.map fun _ => (none : Option Addr))[i]? ≠ some (some b) := fun h => by
  rw [List.getElem?_map] at h
  obtain ⟨d, _, h⟩ := Option.map_eq_some_iff.mp h
  cases h
theorem ext_of {F H F' H' : Hp} (s : Same F H) (a : Sm F F') (b : Same F' H') (g : ∀ c o, H c = some o → F c = none → (∀ ps, o ≠ .tbl ps) → H' c = some o ∧ F' c = none) (tp : Tp F' H') : Ext F H F' H' :=
  ⟨a, fun c o h n k => (g c o h n k).1, b, fun c o h n k => (g c o h n k).2, fun _ => tp⟩
theorem sim_callN {m : MS} {t : TA} {ma : MA} (ha : SimA K t ma) : SimN K (tCallD K m t) (callN m ma) := ⟨fun {F0 Gd ios F H σ e os l e' Q} W hm q => by
  unfold callN at hm
  obtain ⟨⟨ls, e1⟩, h1, hm⟩ := Option.bind_eq_some_iff.mp hm
  obtain ⟨⟨ds, e2⟩, h2, hm⟩ := Option.bind_eq_some_iff.mp hm
  obtain ⟨⟨fl, a'⟩, h3, hm⟩ := Option.bind_eq_some_iff.mp hm
  obtain ⟨d, h4, hm⟩ := Option.map_eq_some_iff.mp hm
  cases hm
  refine ha.run W h1 fun F1 H1 os1 xs W1 s1 k1 => ?_
  obtain ⟨F2, os2, W2, s2, r⟩ := W1.takes k1 h2
  refine ⟨F2, _, _, fl, a', args_pure W2.fh W2.tp r, h3, fun F' H' sf fh g _ tp => ?_⟩
  have x := ext_of W2.fh sf fh (fun c o h n k => g c o h n k (noneOs c)) tp
  have W3 := W2.ext x
  have s3 := (s1.trans s2).trans sf
  cases fl <;> first | (cases h4; done) | skip
  cases h4
  exact fun p n ob => q F' H' os2 p W3 s3 ⟨ob, W2.noGd n, W2.notOwn n⟩⟩
theorem sim_call {m : MS} {t : TA} {ma : MA} (ha : SimA K t ma) : SimE K (tCallD K m t) (callM m ma) := ⟨fun {F0 Gd ios F H σ e os l e' Q} W hm q => by
  unfold callM at hm
  obtain ⟨⟨ls, e1⟩, h1, hm⟩ := Option.bind_eq_some_iff.mp hm
  obtain ⟨⟨ds, e2⟩, h2, hm⟩ := Option.bind_eq_some_iff.mp hm
  obtain ⟨⟨fl, a'⟩, h3, hm⟩ := Option.bind_eq_some_iff.mp hm
  obtain ⟨d, h4, hm⟩ := Option.map_eq_some_iff.mp hm
  cases hm
  refine ha.run W h1 fun F1 H1 os1 xs W1 s1 k1 => ?_
  obtain ⟨F2, os2, W2, s2, r⟩ := W1.takes k1 h2
  refine ⟨F2, _, _, fl, a', args_pure W2.fh W2.tp r, h3, fun F' H' sf fh g _ tp => ?_⟩
  have x := ext_of W2.fh sf fh (fun c o h n k => g c o h n k (noneOs c)) tp
  have W3 := W2.ext x
  have s3 := (s1.trans s2).trans sf
  cases fl with
  | nx => cases h4; exact q F' H' os2 _ W3 s3 Rp.non
  | rt c => cases h4; exact fun y ry => q F' H' os2 y W3 s3 ry
  | rn c =>
    cases h4
    intro p n ob
    obtain ⟨F4, W4, s4, r4⟩ := Nw.freeze ⟨ob, W2.noGd n, W2.notOwn n⟩ W3
    exact q F4 H' os2 _ W4 (s3.trans s4) r4
  | bk => cases h4
  | ct => cases h4⟩
/-- f(c, ..): c an owned name that f changes -/
def ioOf (a : Env) : Option D := match a[(0 : Nat)]? with
  | some (.io d) => some d
  | _ => none
def callC (k : Nat) (m : MS) (ma : MA) : ME := fun e => (ownD e k).bind fun _ => (ma e).bind fun p => (tks p.2 p.1).bind fun q => (ownD q.2 k).bind fun c => (m (.io c :: q.1.map .fz)).bind fun r => (ioOf r.2).bind fun c2 => (wr q.2 k c2).bind fun e2 => (resV r.1).map fun d => (.v d, e2)
theorem args_io {F H : Hp} {xs : List V} {ds : List D} {p : Addr} {c : D} (s : Same F H) (tp : Tp F H) (r : RpL K F xs ds) (ob : Ob K F H p c) : ArgOk K F H (.ref p :: xs) (.io c :: ds.map .fz) (some p :: ds.map fun _ => none) where
  fh := s
  lv := by rw [List.length_cons, List.length_cons, r.length, List.length_map]
  lo := by rw [List.length_cons, List.length_cons, List.length_map, List.length_map]
  sl := fun i t h => by
    cases i with
    | zero => cases h; exact ⟨fun _ z => (nomatch z), p, rfl, rfl, ob⟩
    | succ i => exact (args_pure s tp r).sl i t h
  ds := fun i j b h h2 => by
    cases i with
    | succ i => exact absurd h (noneOs b i)
    | zero => cases j with
      | zero => rfl
      | succ j => exact absurd h2 (noneOs b j)
  tp := tp
theorem callC_core {F0 Gd F2 H1 : Hp} {ios os2 : List (Option Addr)} {σ : L2.St} {e2 e3 a' : Env} {k : Nat} {p : Addr} {c c2 : D} {xs : List V} {ds : List D} {fl : Fl} {m : MS} {Q : VK} (W2 : WOk K F0 Gd ios F2 H1 σ e2 os2)
    (r : RpL K F2 xs ds) (hp : os2[k]? = some (some p)) (ob : Ob K F2 H1 p c) (h3 : m (.io c :: ds.map .fz) = some (fl, a')) (hi : ioOf a' = some c2) (hw : wr e2 k c2 = some e3)
    (q : ∀ F' H', WOk K F0 Gd ios F' H' σ e3 os2 → Sm F2 F' → RtOk K H1 F' H' Q fl) : spD K m (.ref p :: xs) H1 Q := by
  refine ⟨F2, _, _, fl, a', args_io W2.fh W2.tp r ob, h3, fun F' H' sf fh g o tp => ?_⟩
  refine q F' H' (W2.chg hp sf fh (fun b u hb n k ne => g b u hb n k fun i z => ?_) ?_ hw tp) sf
  · cases i with
    | zero => cases z; exact ne rfl
    | succ i => exact noneOs b i z
  · obtain ⟨d, h1, h2⟩ := o 0 p rfl
    unfold ioOf at hi
    rw [h1] at hi
    cases hi
    exact h2
theorem sim_callC {k : Nat} {m : MS} {t : TA} {ma : MA} (ha : SimA K t ma) : SimE K (tCallD K m (tCons (tVar k) t)) (callC k m ma) := ⟨fun {F0 Gd ios F H σ e os l e' Q} W hm q => by
  unfold callC at hm
  obtain ⟨c0, h0, hm⟩ := Option.bind_eq_some_iff.mp hm
  obtain ⟨⟨ls, e1⟩, h1, hm⟩ := Option.bind_eq_some_iff.mp hm
  obtain ⟨⟨ds, e2⟩, h2, hm⟩ := Option.bind_eq_some_iff.mp hm
  obtain ⟨c, hc, hm⟩ := Option.bind_eq_some_iff.mp hm
  obtain ⟨⟨fl, a'⟩, h3, hm⟩ := Option.bind_eq_some_iff.mp hm
  obtain ⟨c2, hi, hm⟩ := Option.bind_eq_some_iff.mp hm
  obtain ⟨e3, hw, hm⟩ := Option.bind_eq_some_iff.mp hm
  obtain ⟨d, h4, hm⟩ := Option.map_eq_some_iff.mp hm
  cases hm
  obtain ⟨p, hp, hv, ob⟩ := W.at_ h0
  refine ⟨.ref p, hv, ha.run W h1 fun F1 H1 os1 xs W1 s1 k1 => ?_⟩
  obtain ⟨F2, os2, W2, s2, r⟩ := W1.takes k1 h2
  obtain ⟨p2, hp2, hv2, ob2⟩ := W2.at_ hc
  rw [hv] at hv2; cases hv2
  refine callC_core W2 r hp2 ob2 h3 hi hw fun F' H' W3 sf => ?_
  have s3 := (s1.trans s2).trans sf
  cases fl with
  | nx => cases h4; exact q F' H' os2 _ W3 s3 Rp.non
  | rt c => cases h4; exact fun y ry => q F' H' os2 y W3 s3 ry
  | rn c =>
    cases h4
    intro p n ob
    obtain ⟨F4, W4, s4, r4⟩ := Nw.freeze ⟨ob, W2.noGd n, W2.notOwn n⟩ W3
    exact q F4 H' os2 _ W4 (s3.trans s4) r4
  | bk => cases h4
  | ct => cases h4⟩
structure FnD (P : Program) (w : World) (K : PySem.W.Frag) (mg : Str → Option Value) (base : Heap) (k : Nat) (f : Addr) (fd : FuncData) (ps : List Str) (m : MS) : Prop where
  len : ∀ vs H Q, spD K m vs H Q → vs.length = ps.length
  run : ∀ (A : Around) (outer : List PySem.Env) (s : Shared) (H : Hp) (args : Args) (us : List Value) (vs : List V) (Q : VK), Room k A → A.guards = some [] → Env0 P w K mg base A outer s H → BindsTo s fd args (ps.zip us) → Vals vs us → spD K m vs H Q →
    codeAny (model P w) A (.call (.ref f) args) (CR CX0 outer P w H s Q E0) s
theorem FnD.mono {P : Program} {w : World} {mg : Str → Option Value} {base : Heap} {j k : Nat} {f : Addr} {fd : FuncData} {ps : List Str} {m : MS} (F : FnD P w K mg base j f fd ps m) (h : j ≤ k) : FnD P w K mg base k f fd ps m :=
  ⟨F.len, fun A outer s H args us vs Q hr => F.run A outer s H args us vs Q (hr.mono h)⟩
theorem fnD {P : Program} {w : World} {mg : Str → Option Value} {base : Heap} {x qual : Str} {st : Stmt} {f : Addr} {fd : FuncData} {N ps : List Str} {k a n : Nat} {m : MS} (Fu : Fun K x qual st f fd) (S : FnScope N ps (defScope st)) (ha : ps.length = a) (hn : N.length - ps.length = n)
    (hb : ∀ (cdv : Value) (A : Around) (outer : List PySem.Env) (s : Shared) (H : Hp), Room k (A.deeper (envOfC qual (defScope st) s.heap.objs.size f cdv)) → (A.deeper (envOfC qual (defScope st) s.heap.objs.size f cdv)).guards = some [] →
      PSs (cxOf CX0 P w K mg base N qual (defScope st) f cdv A outer s H E0).nox (defBody st) (rS K m)) : FnD P w K mg base (k + 1) f fd ps (fnM a n m) := by
  obtain ⟨oc, od, kV, doc, pm, an, cdv, ct, osl, rfl, lk, hcd⟩ := Fu.ex
  refine ⟨fun vs H Q h => (fnM_len h).trans ha.symm, fun A outer s H args us vs Q hr hg e0 bt rv hs => ?_⟩
  have hl : vs.length = ps.length := (fnM_len hs).trans ha.symm
  have inK : K.In s.heap := e0.mod.kin.keeps fun b o h => (e0.bs b o h).1
  have noL : s.heap.NoLimit := e0.mod.nolimit.keeps fun b o h => (e0.bs b o h).1
  have kinds : ∀ y ∈ ps.zip us, (defScope st).names.lookup y.1 = some .local ∨
      ((defScope st).names.lookup y.1 = some .cell ∧ ((cellsFrom (s.heap.objs.size + 1) (defScope st).names []).lookup y.1).isSome = true) := by
    rintro ⟨z, v⟩ hz
    rcases S.par z (List.of_mem_zip hz).1 with h | h
    · exact Or.inl h
    · exact Or.inr ⟨h, PySem.W.cellsFrom_some _ _ _ (Or.inl h)⟩
  refine codeAny_call_function hr.depth (inK _ _ lk) rfl
    S.co S.gen rfl (PySem.W.codeRec_of inK hcd) (bt _ _ _ _ ?_)
  refine wpAny_newFunctionEnv_cells S.kind kinds fun env henv s1 ic => ?_
  subst henv
  refine ⟨noL.keeps ic.toInCall.keep, codeAny_func ?_⟩
  have body := (hb cdv A outer s H (hr.deeper _) hg).nox
  have read := fn_sim (t := rS K m) (N := N) sim_rS (by rw [hl]; exact hn) hs (B := TbK H) tbK_ob
  have I0 := inv_start (CX := CX0) (P := P) (w := w) (mg := mg) (base := base)
    (E := E0) S hr.hd e0 hl rv ic
  refine wpAny_mono (body.run [] s1 _ H _ I0 read)
    (fun fl s' hq => ?_) fun x s' hq => hq
  cases fl with
  | brk =>
    obtain ⟨_, _, _, no⟩ := hq
    exact no.elim
  | cont =>
    obtain ⟨_, _, _, no⟩ := hq
    exact no.elim
  | next =>
    obtain ⟨σ', H', J, hQ⟩ := hq
    exact ⟨V.non, H', J.os, J.bare, J.base, J.hok, rfl, hQ⟩
  | ret u =>
    obtain ⟨v, σ', H', J, rl, hQ⟩ := hq
    exact ⟨v, H', J.os, J.bare, J.base, J.hok, rl, hQ J.base.tbls⟩
section
variable {X : Cx} {k : Nat} {f : Addr} {fd : FuncData} {ps : List Str} {m : MS} {x : Str} {p pos : Pos} {e : Expr} {es : List Expr} {t : TA}
theorem pe_callD (F : FnD X.prog X.w X.K X.mg X.base k f fd ps m) (hr : Room k X.A) (hgd : X.A.guards = some []) (hg : Gl X x) (hm : X.mg x = some (.ref f)) (hk : PySem.W.keepIn X.K (.ref f) = true) (hb : Binds X.K fd ps []) (ha : PA X (e :: es) t)
    (hdb : (x == ("__debug__" : Str)) = false := by decide) (he : starEach (e :: es) X.env = (false, eval e X.env) :: starEach es X.env := by rfl) (hpl : (backTo pos (starEach es X.env)).any (·.1) = false := by rfl) :
    PE X (.Call (.Name x p) (e :: es) [] pos) (tCallD X.K m t) := by
  refine ⟨fun pins s σ H Q I h => ?_⟩
  refine wpAny_Call_Name_kw (ld_glob I hg hm ?_ hdb)
  refine PySem.W.callWith_K (h₀ := X.base) I.ok.mod.kin hk (thn (ha.run pos pins s σ H _ I h) ?_) he hpl
  rintro us s1 ⟨vs, H1, I1, r, q⟩
  refine ⟨I1.kIn, ?_⟩
  have el : vs.length = ps.length := F.len _ _ _ q
  have eu : (us ++ []).length = ps.length := by rw [List.append_nil, ← r.length]; exact el
  have bd := hb s1 us I1.kIn eu
  rw [List.append_nil] at bd
  refine wpAny_call (codeAny_mono (F.run X.A X.stack s1 H1 ⟨us, []⟩ us vs Q hr hgd I1.env0 bd r q) ?_)
  intro rs s' hq
  cases rs with
  | error _ => exact False.elim hq
  | ok fl => cases fl with
    | ret u => exact I1.after hq
    | next => exact False.elim hq
    | brk => exact False.elim hq
    | cont => exact False.elim hq
end
/-- the tables of code objects that the law's lambdas are written in: (code object, table), as the heap h holds them -/
structure Tabl (K : PySem.W.Frag) (h : Heap) (cs : List (Addr × Addr)) : Prop where
  em : ∀ c ∈ cs, h.get? c.2 = some { cls := .none, data := .fields #[] }
  nk : ∀ c ∈ cs, K.lookup c.2 = none
  hd : ∀ c ∈ cs, PySem.W.CodeHd h c.1 c.2
  of : ∀ q ∈ TabP.T, q.1 ∈ cs.map (·.2)
theorem Tabl.nil {h : Heap} (z : TabP.T = []) : Tabl K h [] := ⟨fun _ h => (by cases h), fun _ h => (by cases h), fun _ h => (by cases h), fun q h => by rw [z] at h; cases h⟩
theorem law_callD {P : Program} {w : World} {mg mb : Str → Option Value} {k : Nat} {fa a : Addr} {fd : FuncData} {x : Str} {m : MS} {s1 : Shared} {vs : List Value} {ns : List Int} {cs : List (Addr × Addr)}
    (KX : K.In s1.heap) (hns : s1.heap.Ns mainGlobals mg) (hb : s1.heap.Ns builtinsNs mb) (hbb : ∀ x : Str, x ≠ "__name__" → mb x = bootBuiltins x) (hlim : s1.heap.NoLimit) (hg : s1.gens = #[]) (TT : Tabl K s1.heap cs)
    (hbm : ∃ (bm : Addr) (ob : Obj), mg "__builtins__" = some (.ref bm) ∧ bm ≠ builtinsNs ∧ s1.heap.get? bm = some ob ∧ ob.cls = .type "module" ∧ ob.dict = some builtinsNs ∧ ob.data = .plain)
    (ha : s1.heap.get? a = some { cls := .type "list", data := .seq vs.toArray }) (hi : IntsAre vs ns) (hl : ns.length ≤ sizeLine) (hr : Room k callerA)
    (F : ∀ base : Heap, K.In base → base.Ns mainGlobals mg → (∀ c ∈ cs, LamX.TabB base mg c.1 c.2) → FnD P w K mg base k fa fd [x] m) (hbind : ∀ (s : Shared) (u : Value), BindsTo s fd ⟨[u], []⟩ [(x, u)])
    (hm : ∃ e, m [.fz (.scr ns)] = some (.rt (.bl true), e)) :
    codeAny (model P w) callerA (.call (.ref fa) ⟨[.ref a], []⟩) (fun r s' => r = .ok (.ret (.bool true)) ∧ OldK s1.heap s'.heap ∧ s'.os = s1.os ∧ AllBare s'.gens) s1 := by
  have rv : Vals (ns.map V.int) vs := vals_of_ints hi
  have lenV : vs.length = ns.length := hi.length
  obtain ⟨e9, hm⟩ := hm
  -- a table's address
  let tabA : Addr → Prop := fun b => b ∈ cs.map (·.2)
  have tabE : ∀ b, tabA b → s1.heap.get? b = some { cls := .none, data := .fields #[] } := fun b h => by
    obtain ⟨c, hc, rfl⟩ := List.mem_map.mp h
    exact TT.em c hc
  have ntA : ¬ tabA a := fun h => by
    have q := ha.symm.trans (tabE a h)
    exact nomatch congrArg Obj.data (Option.some.inj q)
  have core : ∀ HF : Hp, Only HF → SqL K HF a (ns.map V.int) → HOk P w HF s1.heap → (∀ b, HF b ≠ none → b = a) →
      (HF a ≠ none → K.lookup a = none) → (∀ b o, HF b = some o → Pl o) → codeAny (model P w) callerA (.call (.ref fa) ⟨[.ref a], []⟩)
        (fun r s' => r = .ok (.ret (.bool true)) ∧ OldK s1.heap s'.heap ∧ s'.os = s1.os ∧ AllBare s'.gens) s1 := by
    intro HF only sq hokF hA hK hnt
    obtain ⟨H, hH⟩ : ∃ H : Hp, H = fun b => if tabA b then some (.tbl #[]) else HF b := ⟨_, rfl⟩
    have inT : ∀ {b : Addr}, tabA b → H b = some (.tbl #[]) := fun {b} h => by rw [hH]; exact if_pos h
    have outT : ∀ {b : Addr}, ¬ tabA b → H b = HF b := fun {b} h => by rw [hH]; exact if_neg h
    have fT : ∀ {b : Addr}, tabA b → HF b = none := fun {b} h => by
      cases q : HF b with
      | none => rfl
      | some u => rw [hA b (by rw [q]; simp)] at h; exact absurd h ntA
    have hok : HOk P w H s1.heap := fun b u z => by
      by_cases h : tabA b
      · rw [inT h] at z
        cases z
        exact tabE b h
      · rw [outT h] at z
        exact (hokF b u z).stay (fun c v _ q => q) (fun d q => by
          by_cases h2 : tabA d
          · rw [fT h2] at q; cases q
          · rw [outT h2]; exact q) fun d xs q => by
          by_cases h2 : tabA d
          · rw [fT h2] at q; cases q
          · rw [outT h2]; exact q
    -- what is neither the list nor a table is not tracked
    have free : ∀ {b : Addr} {o : Obj}, s1.heap.get? b = some o → (∀ ws n, o.data ≠ .seq ws n) → o.data ≠ .fields #[] → H b = none := fun {b o} h1 h2 h3 => by
      by_cases h : tabA b
      · have q := h1.symm.trans (tabE b h)
        cases q
        exact absurd rfl h3
      · rw [outT h]
        cases q : HF b with
        | none => rfl
        | some u =>
          cases hA b (by rw [q]; simp)
          rw [ha] at h1
          cases h1
          exact absurd rfl (h2 _ _)
    have ns0 : ∀ {b : Addr} {mm : Str → Option Value}, s1.heap.Ns b mm → (hidT s1.heap H).Ns b mm := by
      rintro b mm ⟨o, es, ep, h1, h2, r⟩
      exact ⟨o, es, ep, hidT_get h1 (free h1 (fun _ _ z => nomatch h2.symm.trans z) fun z => nomatch h2.symm.trans z), h2, r⟩
    have kb : K.In (hidT s1.heap H) := by
      intro b o h
      refine hidT_get (KX b o h) ?_
      by_cases h2 : tabA b
      · obtain ⟨c, hc, rfl⟩ := List.mem_map.mp h2
        rw [TT.nk c hc] at h; cases h
      · rw [outT h2]
        cases q : HF b with
        | none => rfl
        | some u =>
          cases hA b (by rw [q]; simp)
          rw [hK (by rw [q]; simp)] at h
          cases h
    have md : Mod K mg (hidT s1.heap H) := by
      obtain ⟨mc, c1, c2⟩ := hlim
      exact ⟨kb, ns0 hns, ⟨mb, ns0 hb, hbb⟩, ⟨mc, ns0 c1, c2⟩⟩
    have bases : ∀ c ∈ cs, LamX.TabB (hidT s1.heap H) mg c.1 c.2 := fun c hc => by
      have hE := TT.em c hc
      constructor
      · obtain ⟨o, us, v3, v4, v5, v6, v7, v8, v9, g1, gc, g2, g3, g4, g5, g6, g7, g8, g9⟩ := TT.hd c hc
        refine ⟨o, us, v3, v4, v5, v6, v7, v8, v9, hidT_get g1 (free g1 (fun _ _ z => nomatch g2.symm.trans z) fun z => ?_), gc, g2, g3, g4, g5, g6, g7, g8, g9⟩
        cases g2.symm.trans z
        simp at g3
      · obtain ⟨bm, ob, g1, g2, g3, g4, g5, g6⟩ := hbm
        refine ⟨bm, ob, g1, g2, fun z => ?_, fun z => ?_, hidT_get g3 (free g3 (fun _ _ z => nomatch g6.symm.trans z) fun z => nomatch g6.symm.trans z), g4, g5, g6⟩
        · obtain ⟨o, es, ep, h1, h2, _⟩ := hns
          subst z
          cases h1.symm.trans g3
          exact nomatch h2.symm.trans g6
        · subst z
          cases hE.symm.trans g3
          exact nomatch g6
      · intro z
        obtain ⟨o, es, ep, h1, h2, _⟩ := hns
        rw [z] at h1
        cases hE.symm.trans h1
        exact nomatch h2
    have e0 : Env0 P w K mg (hidT s1.heap H) callerA [] s1 H :=
      ⟨rfl, md, fun b o h => of_hidT h, Nat.le_of_eq (hidT_size _ _), trivial,
        fun b h => absurd (show b ∈ ([] : List Addr) from h) (by simp), hok, .of_eq hg⟩
    have sFH : Same HF H := fun b o z => by
      by_cases h : tabA b
      · rw [fT h] at z; cases z
      · rw [outT h]; exact z
    have rp : RpL K HF [V.ref a] [D.scr ns] := .one (.scr sq)
    have tp0 : Tp HF H := ⟨fun b xs z => by
      by_cases h : tabA b
      · rw [inT h] at z; cases z
      · rw [outT h] at z; exact z, hnt, fun q hq => .nil (inT (TT.of q hq))⟩
    have sp : spD K m [.ref a] H (fun v _ => v = .bl true) :=
      ⟨HF, _, _, _, _, args_pure sFH tp0 rp, hm, fun F' H' _ _ _ _ _ y ry => by cases ry; rfl⟩
    refine codeAny_mono ((F _ kb (ns0 hns) bases).run callerA [] s1 H ⟨[.ref a], []⟩ [.ref a] [.ref a] _ hr rfl e0
      (hbind s1 (.ref a)) (.cons rfl .nil) sp) ?_
    intro r s' h
    cases r with
    | error e => exact False.elim h
    | ok fl => cases fl with
      | next => exact False.elim h
      | brk => exact False.elim h
      | cont => exact False.elim h
      | ret u =>
        obtain ⟨v, H', os', bare, un, hok', rl, hq⟩ := h
        cases (show v = V.bl true from hq)
        cases (show u = Value.bool true from rl)
        have more : ∀ b, tabA b → ∃ ps : Array Value, s'.heap.get? b = some { cls := .none, data := .fields ps } := fun b h => by
          obtain ⟨ps, z⟩ := un.tbls b #[] (inT h)
          exact ⟨_, hok' b _ z⟩
        have same : ∀ b o, ¬ tabA b → s1.heap.get? b = some o → s'.heap.get? b = some o := fun b o h1 h2 => by
          cases q : HF b with
          | none => exact un.keep b o h2 (by rw [outT h1]; exact q) (fun z => absurd (show b ∈ ([] : List Addr) from z) (by simp)) (by simp)
          | some u =>
            rcases only b with z | ⟨ob, xs, z⟩
            · rw [q] at z; cases z
            · have z1 : H b = _ := (outT h1).trans z
              have z2 := un.frzs b ob _ z1
              have o1 := (hok b _ z1).1
              have o2 := (hok' b _ z2).1
              rw [h2] at o1; cases o1
              exact o2
        refine ⟨rfl, ⟨fun b o h2 => ?_, fun b o h2 => ?_⟩, os', bare⟩
        · by_cases h1 : tabA b
          · obtain ⟨ps, hp⟩ := more b h1
            obtain ⟨c, hc, rfl⟩ := List.mem_map.mp h1
            have hE := TT.em c hc
            cases hE.symm.trans h2
            exact .inr (.inl ⟨((TT.hd c hc).tab hE).isCodeTable, rfl, #[], ps, rfl, by rw [Array.empty_append]; exact hp⟩)
          · exact .inl (same b o h1 h2)
        · by_cases h1 : tabA b
          · obtain ⟨ps, hp⟩ := more b h1
            exact ⟨_, hp⟩
          · exact ⟨o, same b o h1 h2⟩
  cases hk : K.lookup a with
  | some o =>
    have h := KX a o hk
    rw [ha] at h
    cases h
    refine core (fun _ => none) (fun _ => Or.inl rfl) (Or.inr ⟨_, vs.toArray, _, hk, rfl, rfl, rfl, ?_, ?_⟩) ?_ ?_ ?_ ?_
    · rw [List.size_toArray, lenV]; exact hl
    · simpa using rv
    · intro b u z; exact nomatch (show (none : Option HO) = some u from z)
    · intro b z; exact absurd rfl z
    · intro z; exact absurd rfl z
    · intro b o z; exact nomatch (show (none : Option HO) = some _ from z)
  | none =>
    let fz : HO := .frz { cls := .type "list", data := .seq vs.toArray } (.lst (ns.map V.int))
    have at1 : (fun b => if b = a then some fz else none : Hp) a = some fz := if_pos rfl
    refine core (fun b => if b = a then some fz else none) (fun b => ?_) (Or.inl (Or.inr ⟨_, at1⟩)) (fun b u z => ?_) (fun b z => ?_) (fun _ => hk) fun b ps z => ?_
    · by_cases h : b = a
      · exact Or.inr ⟨_, _, if_pos h⟩
      · exact Or.inl (if_neg h)
    · by_cases h : b = a
      · have z2 := (if_pos h).symm.trans z
        cases z2
        subst h
        exact ⟨ha, by rw [List.length_map]; exact hl, vs, _, rv, ha⟩
      · have z2 := (if_neg h).symm.trans z
        cases z2
    · by_cases h : b = a
      · exact h
      · exact absurd (if_neg h) z
    · by_cases h : b = a
      · cases (if_pos h).symm.trans z
        exact ⟨fun _ z => (nomatch z), fun _ z => (nomatch z)⟩
      · exact nomatch (if_neg h).symm.trans z
omit [TabP] in
theorem walk_D {l : PySem.W.OpenLaw} {n k : Nat} {q : Program} {loose : List Str} {XP : (Str → Option Value) → Heap → Prop} {YP : World → Heap → Prop} {d : DefRec} {K : Params → PySem.W.Frag} {x : Str} {m : MS}
    (hn : l.most = some n) (hn2 : n ≤ sizeLine) (hdf : d.params.defaults = []) (hr : Room k callerA)
    (hY : ∀ (w : World) (h : Heap), YP w h → (K w.params).In h)
    (F : ∀ (w : World) (mg : Str → Option Value) (fa : Addr) (h : Heap), YP w h → (K w.params).In h → h.Ns mainGlobals mg → mg d.name = some (.ref fa) →
      ∃ (T : List (Addr × Str)) (cs : List (Addr × Addr)), @Tabl ⟨T, fun _ => ⟨0, 0, "", [], []⟩⟩ (K w.params) h cs ∧ ∃ fd : FuncData, (∀ (s : Shared) (u : Value), BindsTo s fd ⟨[u], []⟩ [(x, u)]) ∧
        ∀ base : Heap, (K w.params).In base → base.Ns mainGlobals mg → (∀ c ∈ cs, LamX.TabB base mg c.1 c.2) → @FnD ⟨T, fun _ => ⟨0, 0, "", [], []⟩⟩ l.prog w (K w.params) mg base k fa fd [x] m)
    (hm : ∀ ns : List Int, ns.length ≤ n → (∀ z ∈ ns, Builtin.Int.intBits z ≤ 1048576) → ∃ e, m [.fz (.scr ns)] = some (.rt (.bl true), e)) :
    PySem.W.WalkO q loose XP YP l.row.toRowW d [] (fun f vs => PySem.call f vs) := by
  refine Att.attach_callB hn hdf ?_
  intro w s0 s1 mg mb fa o pm cd doc a vs ns G Y ho hd hcd hmg hobj hints hlen hbits hg
  have KX := hY w _ Y
  obtain ⟨T, cs, TT, fd, hb, hF⟩ := F w mg fa _ Y KX G.T.g hmg
  exact @law_callD ⟨T, fun _ => ⟨0, 0, "", [], []⟩⟩ (K w.params) _ _ _ _ _ _ _ _ _ _ _ _ _ _ KX G.T.g G.T.b G.T.builtins G.T.nolimit hg TT G.T.bmain hobj hints (Nat.le_trans hlen hn2) hr hF hb (hm ns hlen hbits)
end Dk
set_option exponentiation.threshold 256
namespace Dk
open PySem PySem.Spec PyProof.Rows L2
variable [TabP]
variable {K : PySem.W.Frag}
def rAddStr : R2 := fun x y H Q => ∃ i j, x = .str i ∧ y = .str j ∧ i.length + j.length ≤ sizeLine ∧ Q (.str (i ++ j)) H
def rAddI : R2 := rI0 fun i j => .int (i + j)
def rAddAny (K : PySem.W.Frag) : R2 := fun x y H Q => rAddI x y H Q ∨ rAddStr x y H Q ∨ rCat x y H Q
def addD : D → D → Option D
  | .int i, .int j => some (.int (i + j))
  | .str i, .str j => (okB (few (i.length + j.length))).map fun _ => .str (i ++ j)
  | .lst i, .lst j => (okB (few (i.length + j.length))).map fun _ => .lst (i ++ j)
  | _, _ => none
theorem op2_add : Op2 K (rAddAny K) addD := fun {F H x y dx dy d Q} s bx bY hd q => by
  unfold addD at hd
  split at hd
  · cases hd
    cases bx.isInt; cases bY.isInt
    exact .inl ⟨_, _, rfl, rfl, q F H _ (Ext.refl s) (.int _)⟩
  · obtain ⟨_, h, hd⟩ := Option.map_eq_some_iff.mp hd
    cases hd
    cases bx.isStr; cases bY.isStr
    exact .inr (.inl ⟨_, _, rfl, rfl, few_ok (okB_iff h), q F H _ (Ext.refl s) (.str _)⟩)
  · obtain ⟨_, h, hd⟩ := Option.map_eq_some_iff.mp hd
    cases hd
    obtain ⟨a, xs, rfl, ha, rx⟩ := bx.isLst s
    obtain ⟨b, ys, rfl, hb, ry⟩ := bY.isLst s
    refine .inr (.inr ⟨a, b, xs, ys, rfl, rfl, ha, hb, by rw [rx.length, ry.length]; exact few_ok (okB_iff h), fun p n => ?_⟩)
    have x := Ext.new (o := .lst (xs ++ ys)) s n
    exact q _ _ _ x (.lst upd_same ((rx.app ry).mono x.f))
  · cases hd
def addL : D → D → Option D
  | .lst i, .lst j => (okB (few (i.length + j.length))).map fun _ => .lst (i ++ j)
  | _, _ => none
theorem op2N_add : Op2N K rCat addL := fun {F H x y dx dy d Q} s bx bY hd q => by
  unfold addL at hd
  split at hd
  · obtain ⟨_, h, hd⟩ := Option.map_eq_some_iff.mp hd
    cases hd
    obtain ⟨a, xs, rfl, ha, rx⟩ := bx.isLst s
    obtain ⟨b, ys, rfl, hb, ry⟩ := bY.isLst s
    refine ⟨a, b, xs, ys, rfl, rfl, ha, hb, by rw [rx.length, ry.length]; exact few_ok (okB_iff h), fun p n => ?_⟩
    exact q p _ n ⟨s.free n, _, upd_same, rx.app ry⟩
  · cases hd
def i2 (c : Int → Int → Bool) (g : Int → Int → D) : D → D → Option D
  | .int i, .int j => (okB (c i j)).map fun _ => g i j
  | _, _ => none
/-- an operation on ints under a test -/
theorem op2_i2 {C : Int → Int → Prop} {c : Int → Int → Bool} {g : Int → Int → V} {gd : Int → Int → D} (hc : ∀ i j, c i j = true → C i j) (hg : ∀ F i j, Rp K F (g i j) (gd i j)) : Op2 K (rI C g) (i2 c gd) := fun {F H x y dx dy d Q} s bx bY hd q => by
  unfold i2 at hd
  split at hd
  · obtain ⟨_, h, hd⟩ := Option.map_eq_some_iff.mp hd
    cases hd
    cases bx.isInt; cases bY.isInt
    exact ⟨_, _, rfl, rfl, hc _ _ (okB_iff h), q F H _ (Ext.refl s) (hg F _ _)⟩
  · cases hd
def i2z (g : Int → Int → D) : D → D → Option D
  | .int i, .int j => some (g i j)
  | _, _ => none
theorem op2_i2z {g : Int → Int → V} {gd : Int → Int → D} (hg : ∀ F i j, Rp K F (g i j) (gd i j)) : Op2 K (rI0 g) (i2z gd) := fun {F H x y dx dy d Q} s bx bY hd q => by
  unfold i2z at hd
  split at hd
  · cases hd
    cases bx.isInt; cases bY.isInt
    exact ⟨_, _, rfl, rfl, q F H _ (Ext.refl s) (hg F _ _)⟩
  · cases hd
def subD : D → D → Option D := i2z fun i j => .int (i - j)
def cMul (i j : Int) : Bool := decide (i.natAbs.log2 + j.natAbs.log2 < 1000000)
def mulI : D → D → Option D := i2 cMul fun i j => .int (i * j)
def cDiv (_ j : Int) : Bool := decide (0 < j) && decide (j.natAbs.log2 < 9000)
def divD : D → D → Option D := i2 cDiv fun i j => .int (i / j)
def cMod (_ j : Int) : Bool := decide (0 < j)
def modD : D → D → Option D := i2 cMod fun i j => .int (i % j)
def cPow (i j : Int) : Bool := decide (0 ≤ j) && decide ((Builtin.Int.intBits i : Int) * j ≤ 2 ^ 27)
def powD : D → D → Option D := i2 cPow fun i j => .int (i ^ j.toNat)
theorem op_powW {X : Cx} : OpR X (binaryOp .Pow) (rI (fun i j => 0 ≤ j ∧ (Builtin.Int.intBits i : Int) * j ≤ 2 ^ 27) fun i j => .int (i ^ j.toNat)) := opI fun _ _ _ _ _ _ _ hc q => pow_int hc.1 hc.2 q
theorem op2_sub : Op2 K (rI0 fun i j => .int (i - j)) subD := op2_i2z fun _ _ _ => .int _
theorem op2_mul : Op2 K (rI CMulW fun i j => .int (i * j)) mulI := op2_i2 (fun _ _ h => of_decide_eq_true h) fun _ _ _ => .int _
theorem op2_div : Op2 K (rI CDivW fun i j => .int (i / j)) divD := op2_i2 (fun _ _ h => by
  have h := Bool.and_eq_true_iff.mp h
  exact ⟨of_decide_eq_true h.1, of_decide_eq_true h.2⟩) fun _ _ _ => .int _
theorem op2_mod : Op2 K (rI (fun _ j => 0 < j) fun i j => .int (i % j)) modD := op2_i2 (fun _ _ h => of_decide_eq_true h) fun _ _ _ => .int _
theorem op2_pow : Op2 K (rI (fun i j => 0 ≤ j ∧ (Builtin.Int.intBits i : Int) * j ≤ 2 ^ 27) fun i j => .int (i ^ j.toNat)) powD := op2_i2 (fun _ _ h => by
  have h := Bool.and_eq_true_iff.mp h
  exact ⟨of_decide_eq_true h.1, of_decide_eq_true h.2⟩) fun _ _ _ => .int _
/-- a list times an int: a new list -/
def repL : D → D → Option D
  | .lst xs, .int k => (okB (decide (-(2 ^ 63) ≤ k) && decide (k < 2 ^ 63) && few (xs.length * k.toNat))).map fun _ => .lst (List.replicate k.toNat xs).flatten
  | _, _ => none
theorem RpL.rep {F : Hp} {vs : List V} {ds : List D} (r : RpL K F vs ds) : ∀ n : Nat, RpL K F (List.replicate n vs).flatten (List.replicate n ds).flatten
  | 0 => .nil
  | n + 1 => by rw [List.replicate_succ, List.replicate_succ, List.flatten_cons, List.flatten_cons]; exact r.app (RpL.rep r n)
theorem op2N_rep : Op2N K rRep repL := fun {F H x y dx dy d Q} s bx bY hd q => by
  unfold repL at hd
  split at hd
  · obtain ⟨_, h, hd⟩ := Option.map_eq_some_iff.mp hd
    cases hd
    obtain ⟨a, xs, rfl, ha, rx⟩ := bx.isLst s
    cases bY.isInt
    have h := Bool.and_eq_true_iff.mp (okB_iff h)
    have h1 := Bool.and_eq_true_iff.mp h.1
    refine ⟨a, _, xs, rfl, rfl, ha, of_decide_eq_true h1.1, of_decide_eq_true h1.2, by rw [rx.length]; exact few_ok h.2, fun p n => ?_⟩
    exact q p _ n ⟨s.free n, _, upd_same, rx.rep _⟩
  · cases hd
def u1 (g : Int → D) : D → Option D
  | .int i => some (g i)
  | _ => none
theorem op1_neg : Op1 K (rU fun i => .int (-i)) (u1 fun i => .int (-i)) := fun {F H x dx d Q} s bx hd q => by
  unfold u1 at hd
  split at hd
  · cases hd
    cases bx.isInt
    exact ⟨_, rfl, q F H _ (Ext.refl s) (.int _)⟩
  · cases hd
mutual
/-- the data of the kit; none where there is no such form -/
def toPy : D → Option PyData
  | .non => some .none
  | .bl b => some (.bool b)
  | .int i => some (.int i)
  | .str x => some (.str x)
  | .lst xs => (toPyL xs).map .list
  | .tup xs => (toPyL xs).map .tuple
  | .gup xs => (toPyL xs).map .tuple
  | .hup xs => (toPyL xs).map .tuple
  | .dic _ => none
  | .scr _ => none
  | .dit _ => none
  | .obj _ _ => none
  | .cls _ => none
def toPyL : List D → Option (List PyData)
  | [] => some []
  | d :: r => (toPy d).bind fun a => (toPyL r).map fun b => a :: b
end
mutual
theorem Rp.dp {F H : Hp} (s : Same F H) : ∀ {v : V} {d : D} {p : PyData}, Rp K F v d → toPy d = some p → Dp K H v p
  | _, _, _, .non, h => by cases h; exact .non
  | _, _, _, .bl b, h => by cases h; exact .bl b
  | _, _, _, .int b, h => by cases h; exact .int b
  | _, _, _, .str b, h => by cases h; exact .str b
  | _, _, _, .lst e r, h => by
    obtain ⟨ps, h1, h2⟩ := Option.map_eq_some_iff.mp h
    cases h2
    exact .lst (.inl (.inl (s _ _ e))) (RpL.dp s r h1)
  | _, _, _, .tup e r, h => by
    obtain ⟨ps, h1, h2⟩ := Option.map_eq_some_iff.mp h
    cases h2
    exact .tup (seqT (.of s) e) (RpL.dp s r h1)
  | _, _, _, .gup e _ r, h => by
    obtain ⟨ps, h1, h2⟩ := Option.map_eq_some_iff.mp h
    cases h2
    exact .tup (seqT (.of s) e) (RpL.dp s r h1)
  | _, _, _, .hup e r, h => by
    obtain ⟨ps, h1, h2⟩ := Option.map_eq_some_iff.mp h
    cases h2
    exact .tup (.inl (.inl (s _ _ e))) (RpL.dp s r h1)
  | _, _, _, .dic _ _, h => by cases h
  | _, _, _, .scr _, h => by cases h
  | _, _, _, .dit _ _, h => by cases h
  | _, _, _, .obj _ _ _ _, h => by cases h
  | _, _, _, .cls _, h => by cases h
theorem RpL.dp {F H : Hp} (s : Same F H) : ∀ {v : List V} {d : List D} {p : List PyData}, RpL K F v d → toPyL d = some p → DpAll K H v p
  | _, _, _, .nil, h => by cases h; exact .nil
  | _, _, _, .cons e r, h => by
    obtain ⟨a, h1, h⟩ := Option.bind_eq_some_iff.mp h
    obtain ⟨b, h2, h⟩ := Option.map_eq_some_iff.mp h
    cases h
    exact .cons (Rp.dp s e h1) (RpL.dp s r h2)
end
theorem Bw.dp {F H : Hp} {x : V} {d : D} {p : PyData} (s : Same F H) (h : Bw K F H x d) (e : toPy d = some p) : Dp K H x p := by
  rcases h with h | ⟨a, rfl, h⟩
  · exact h.dp s e
  · cases d with
    | lst ds =>
      obtain ⟨_, xs, e1, r⟩ := h
      obtain ⟨ps, h1, h2⟩ := Option.map_eq_some_iff.mp e
      cases h2
      exact .lst (.inl (.inl e1)) (RpL.dp s r h1)
    | dic ds => cases e
    | dit ds => cases e
    | obj n ds => cases e
    | _ => exact h.2.elim
def shp (d : D) : Option PyData := (toPy d).bind fun p => (okB (SeqAt.shaped p)).map fun _ => p
def eqD (a b : D) : Option D := (shp a).bind fun p => (shp b).map fun q => .bl (PyData.eqv p q)
def neD (a b : D) : Option D := (shp a).bind fun p => (shp b).map fun q => .bl (!PyData.eqv p q)
theorem shp_iff {d : D} {p : PyData} (h : shp d = some p) : toPy d = some p ∧ SeqAt.shaped p = true := by
  obtain ⟨a, h1, h⟩ := Option.bind_eq_some_iff.mp h
  obtain ⟨u, h2, h⟩ := Option.map_eq_some_iff.mp h
  cases h
  exact ⟨h1, okB_iff h2⟩
theorem op2_eq : Op2 K (rEqD K) eqD := fun {F H x y dx dy d Q} s bx bY hd q => by
  obtain ⟨a, h1, hd⟩ := Option.bind_eq_some_iff.mp hd
  obtain ⟨b, h2, hd⟩ := Option.map_eq_some_iff.mp hd
  cases hd
  obtain ⟨e1, s1⟩ := shp_iff h1
  obtain ⟨e2, s2⟩ := shp_iff h2
  exact ⟨a, b, bx.dp s e1, bY.dp s e2, s1, s2, q F H _ (Ext.refl s) (.bl _)⟩
theorem op2_ne : Op2 K (rNeD K) neD := fun {F H x y dx dy d Q} s bx bY hd q => by
  obtain ⟨a, h1, hd⟩ := Option.bind_eq_some_iff.mp hd
  obtain ⟨b, h2, hd⟩ := Option.map_eq_some_iff.mp hd
  cases hd
  obtain ⟨e1, s1⟩ := shp_iff h1
  obtain ⟨e2, s2⟩ := shp_iff h2
  exact ⟨a, b, bx.dp s e1, bY.dp s e2, s1, s2, q F H _ (Ext.refl s) (.bl _)⟩
/-- <, <=, >, >= of ints and of texts -/
def cmpD (f : Int → Int → Bool) (g : Str → Str → Bool) : D → D → Option D
  | .int i, .int j => some (.bl (f i j))
  | .str i, .str j => some (.bl (g i j))
  | _, _ => none
def rCmp (f : Int → Int → Bool) (g : Str → Str → Bool) : R2 := fun x y H Q => rI0 (fun i j => .bl (f i j)) x y H Q ∨ ∃ i j, x = .str i ∧ y = .str j ∧ Q (.bl (g i j)) H
theorem op2_cmp {f : Int → Int → Bool} {g : Str → Str → Bool} : Op2 K (rCmp f g) (cmpD f g) := fun {F H x y dx dy d Q} s bx bY hd q => by
  unfold cmpD at hd
  split at hd
  · cases hd
    cases bx.isInt; cases bY.isInt
    exact .inl ⟨_, _, rfl, rfl, q F H _ (Ext.refl s) (.bl _)⟩
  · cases hd
    cases bx.isStr; cases bY.isStr
    exact .inr ⟨_, _, rfl, rfl, q F H _ (Ext.refl s) (.bl _)⟩
  · cases hd
def ltS (i j : Str) : Bool := decide (i.cps.toList < j.cps.toList)
def ltD : D → D → Option D := cmpD (fun i j => decide (i < j)) ltS
def leD : D → D → Option D := cmpD (fun i j => decide (i ≤ j)) fun i j => !ltS j i
def gtD : D → D → Option D := cmpD (fun i j => decide (j < i)) fun i j => ltS j i
theorem opr_lt {X : Cx} : OpR X (compareOp .Lt) (rCmp (fun i j => decide (i < j)) ltS) := op_lt.or op_lt_str
theorem opr_le {X : Cx} : OpR X (compareOp .LtE) (rCmp (fun i j => decide (i ≤ j)) fun i j => !ltS j i) := op_le.or op_le_str
theorem opr_gt {X : Cx} : OpR X (compareOp .Gt) (rCmp (fun i j => decide (j < i)) fun i j => ltS j i) := op_gt.or op_gt_str
theorem opr_add {X : Cx} : OpR X (binaryOp .Add) (rAddAny X.K) := op_add.or (op_add_str.or op_cat)
/-- is None, is not None -/
def isNonD : D → D → Option D
  | .non, .non => some (.bl true)
  | _, .non => some (.bl false)
  | _, _ => none
def notNonD : D → D → Option D
  | .non, .non => some (.bl false)
  | _, .non => some (.bl true)
  | _, _ => none
theorem Bw.notNon {F H : Hp} {x : V} {d : D} (h : Bw K F H x d) (n : d ≠ .non) : x ≠ .non := fun e => by
  subst e
  rcases h with h | ⟨p, e, _⟩
  · cases h; exact n rfl
  · cases e
theorem op2_isN : Op2 K (fun x y H Q => y = .non ∧ Q (.bl (decide (x = .non))) H) isNonD := fun {F H x y dx dy d Q} s bx bY hd q => by
  unfold isNonD at hd
  split at hd
  · cases hd
    cases bx.isNon; cases bY.isNon
    exact ⟨rfl, q F H _ (Ext.refl s) (.bl _)⟩
  · rename_i h
    cases hd
    cases bY.isNon
    rw [decide_eq_false (bx.notNon fun z => h z)]
    exact ⟨rfl, q F H _ (Ext.refl s) (.bl _)⟩
  · cases hd
theorem op2_notN : Op2 K (fun x y H Q => y = .non ∧ Q (.bl (!decide (x = .non))) H) notNonD := fun {F H x y dx dy d Q} s bx bY hd q => by
  unfold notNonD at hd
  split at hd
  · cases hd
    cases bx.isNon; cases bY.isNon
    exact ⟨rfl, q F H _ (Ext.refl s) (.bl _)⟩
  · rename_i h
    cases hd
    cases bY.isNon
    rw [decide_eq_false (bx.notNon fun z => h z)]
    exact ⟨rfl, q F H _ (Ext.refl s) (.bl _)⟩
  · cases hd
/-- a < b < c -/
def chM (op op' : D → D → Option D) (ma mb mc : ME) : ME := fun e => (ma e).bind fun p => (mb p.2).bind fun q => (rd q.2 p.1).bind fun a => (rd q.2 q.1).bind fun b => (op a b).bind fun c => (asB c).bind fun c =>
  if c = true then (mc q.2).bind fun r => (rd r.2 q.1).bind fun b => (rd r.2 r.1).bind fun c => (op' b c).map fun d => (.v d, r.2) else some (.v (.bl false), q.2)
theorem sim_chain {r r' : R2} {op op' : D → D → Option D} {ta tb tc : TE} {ma mb mc : ME} (ho : Op2 K r op) (ho' : Op2 K r' op') (ha : SimE K ta ma) (hb : SimE K tb mb) (hc : SimE K tc mc) : SimE K (tChain r r' ta tb tc) (chM op op' ma mb mc) := ⟨fun {F0 Gd ios F H σ e os l e' Q} W hm q => by
  unfold chM at hm
  obtain ⟨⟨l1, e1⟩, h1, hm⟩ := Option.bind_eq_some_iff.mp hm
  obtain ⟨⟨l2, e2⟩, h2, hm⟩ := Option.bind_eq_some_iff.mp hm
  obtain ⟨a, ra, hm⟩ := Option.bind_eq_some_iff.mp hm
  obtain ⟨b, rb, hm⟩ := Option.bind_eq_some_iff.mp hm
  obtain ⟨d, hd, hm⟩ := Option.bind_eq_some_iff.mp hm
  obtain ⟨c, hc1, hz⟩ := Option.bind_eq_some_iff.mp hm
  clear hm
  have ed := asB_iff hc1
  subst ed
  refine ha.run W h1 fun F1 H1 os1 x W1 s1 k1 => hb.run W1 h2 fun F2 H2 os2 y W2 s2 k2 => ?_
  refine ho W2.fh (W2.bw (k1.mono s2) ra) (W2.bw k2 rb) hd fun F3 H3 v x3 rp => ?_
  have s3 := (s1.trans s2).trans x3.f
  have W3 := W2.ext x3
  cases rp
  refine ⟨c, rfl, ?_⟩
  cases c with
  | false => cases hz; exact iteF (q F3 H3 os2 _ W3 s3 (Rp.bl false))
  | true =>
    simp only [if_true] at hz
    obtain ⟨⟨l4, e4⟩, h4, hz⟩ := Option.bind_eq_some_iff.mp hz
    obtain ⟨b4, rb4, hz⟩ := Option.bind_eq_some_iff.mp hz
    obtain ⟨c4, rc4, hz⟩ := Option.bind_eq_some_iff.mp hz
    obtain ⟨d4, hd4, hz⟩ := Option.map_eq_some_iff.mp hz
    cases hz
    refine iteT (hc.run W3 h4 fun F4 H4 os4 z W4 s4 k4 => ?_)
    exact ho' W4.fh (W4.bw ((k2.mono x3.f).mono s4) rb4) (W4.bw k4 rc4) hd4 fun F5 H5 v x5 rp => q F5 H5 os4 v (W4.ext x5) ((s3.trans s4).trans x5.f) rp⟩
def ixD : D → D → Option D
  | .lst xs, .int i => atI xs i
  | .tup xs, .int i => atI xs i
  | .scr xs, .int i => (atI xs i).map .int
  | .str x, .int i => (okB (few x.length)).bind fun _ => (atI x.cps.toList i).map fun c => .str ⟨#[c]⟩
  | _, _ => none
theorem RpL.atI {F : Hp} {vs : List V} {ds : List D} (r : RpL K F vs ds) {i : Int} {d : D} (h : atI ds i = some d) : ∃ v, L2.atI vs i = some v ∧ Rp K F v d := by
  unfold L2.atI at h ⊢
  rw [r.length]
  obtain ⟨j, h1, h2⟩ := Option.bind_eq_some_iff.mp h
  obtain ⟨y, hy, ry⟩ := r.get h2
  exact ⟨y, by rw [h1]; exact hy, ry⟩
theorem atI_map {α β : Type} (f : α → β) (xs : List α) (i : Int) : atI (xs.map f) i = (atI xs i).map f := by
  unfold atI
  rw [List.length_map]
  cases ixN xs.length i with
  | none => rfl
  | some j => simp
theorem op2_ix : Op2 K (rIx K) ixD := fun {F H x y dx dy d Q} s bx bY hd q => by
  unfold ixD at hd
  split at hd
  · obtain ⟨a, xs, rfl, ha, rx⟩ := bx.isLst s
    cases bY.isInt
    obtain ⟨v, hv, rv⟩ := rx.atI hd
    exact .inl ⟨a, xs, _, v, rfl, rfl, .inl (.inl ha), hv, q F H v (Ext.refl s) rv⟩
  · obtain ⟨a, xs, rfl, ha, rx, _⟩ := bx.isTup s
    cases bY.isInt
    obtain ⟨v, hv, rv⟩ := rx.atI hd
    exact .inr (.inl ⟨a, xs, _, v, rfl, rfl, ha, hv, q F H v (Ext.refl s) rv⟩)
  · obtain ⟨a, rfl, ha⟩ := bx.isScr s
    cases bY.isInt
    obtain ⟨n, h1, hd⟩ := Option.map_eq_some_iff.mp hd
    cases hd
    exact .inl ⟨a, _, _, .int n, rfl, rfl, ha, by rw [atI_map, h1]; rfl, q F H _ (Ext.refl s) (.int n)⟩
  · cases bx.isStr
    cases bY.isInt
    obtain ⟨_, h1, hd⟩ := Option.bind_eq_some_iff.mp hd
    obtain ⟨c, h2, hd⟩ := Option.map_eq_some_iff.mp hd
    cases hd
    exact .inr (.inr ⟨_, _, c, rfl, rfl, few_ok (okB_iff h1), h2, q F H _ (Ext.refl s) (.str _)⟩)
  · cases hd
theorem BwL.one {F H : Hp} {xs : List V} {d : D} (h : BwL K F H xs [d]) : ∃ x, xs = [x] ∧ Bw K F H x d := by
  cases h with
  | cons a b => cases b; exact ⟨_, rfl, a⟩
theorem BwL.two {F H : Hp} {xs : List V} {d c : D} (h : BwL K F H xs [d, c]) : ∃ x y, xs = [x, y] ∧ Bw K F H x d ∧ Bw K F H y c := by
  cases h with
  | cons a b => cases b with
    | cons b r => cases r; exact ⟨_, _, rfl, a, b⟩
def lenD : List D → Option D
  | [.lst xs] => some (.int xs.length)
  | [.tup xs] => some (.int xs.length)
  | [.scr xs] => some (.int xs.length)
  | [.str x] => (okB (few x.length)).map fun _ => .int x.length
  | [.dic kvs] => some (.int kvs.length)
  | _ => none
def rLen (K : PySem.W.Frag) : List V → Hp → VK → Prop := fun xs H Q => (∃ x n, xs = [x] ∧ LenV K x H n ∧ Q (.int n) H) ∨ ∃ d kvs, xs = [.ref d] ∧ Rd H d (.dK kvs) ∧ Q (.int kvs.length) H
theorem RpK.length {F : Hp} : ∀ {v : List (Key × V)} {d : List (Key × D)}, RpK K F v d → v.length = d.length
  | _, _, .nil => rfl
  | _, _, .cons _ r => by rw [List.length_cons, List.length_cons, r.length]
theorem opA_len : OpA K (rLen K) lenD := fun {F H xs ds d Q} s b hd q => by
  unfold lenD at hd
  split at hd
  · cases hd
    obtain ⟨x, rfl, b1⟩ := b.one
    obtain ⟨a, xs, rfl, ha, rx⟩ := b1.isLst s
    refine .inl ⟨_, _, rfl, .inl ⟨xs, .inl (.inl ha), rfl⟩, ?_⟩
    rw [rx.length]; exact q F H _ (Ext.refl s) (.int _)
  · cases hd
    obtain ⟨x, rfl, b1⟩ := b.one
    obtain ⟨a, xs, rfl, ha, rx, _⟩ := b1.isTup s
    refine .inl ⟨_, _, rfl, .inr ⟨xs, ha, rfl⟩, ?_⟩
    rw [rx.length]; exact q F H _ (Ext.refl s) (.int _)
  · cases hd
    obtain ⟨x, rfl, b1⟩ := b.one
    obtain ⟨a, rfl, ha⟩ := b1.isScr s
    refine .inl ⟨_, _, rfl, .inl ⟨_, ha, rfl⟩, ?_⟩
    rw [List.length_map]; exact q F H _ (Ext.refl s) (.int _)
  · obtain ⟨_, h, hd⟩ := Option.map_eq_some_iff.mp hd
    cases hd
    obtain ⟨x, rfl, b1⟩ := b.one
    cases b1.isStr
    exact .inl ⟨_, _, rfl, ⟨few_ok (okB_iff h), rfl⟩, q F H _ (Ext.refl s) (.int _)⟩
  · cases hd
    obtain ⟨x, rfl, b1⟩ := b.one
    obtain ⟨a, xs, rfl, ha, rx⟩ := b1.isDic s
    refine .inr ⟨a, xs, rfl, ha, ?_⟩
    rw [rx.length]; exact q F H _ (Ext.refl s) (.int _)
  · cases hd
theorem call_lenRd {X : Cx} : CallR X (.builtin "len") (fun xs H Q => ∃ a kvs, xs = [V.ref a] ∧ Rd H a (.dK kvs) ∧ Q (.int kvs.length) H) := by
  intro pins s σ H xs us Q I r h
  obtain ⟨a, kvs, rfl, ha, q⟩ := h
  obtain ⟨u, rfl, ru⟩ := vals1 r
  cases ru
  exact d_len I ha fun t s' I' => ⟨.int kvs.length, H, I', ⟨t, rfl⟩, q⟩
theorem cr_len {X : Cx} : CallR X (.builtin "len") (rLen X.K) := call_len.or call_lenRd
def absD : List D → Option D
  | [.int i] => some (.int (if i < 0 then -i else i))
  | _ => none
theorem opA_abs : OpA K (fun xs H Q => ∃ i, xs = [.int i] ∧ Q (.int (if i < 0 then -i else i)) H) absD := fun {F H xs ds d Q} s b hd q => by
  unfold absD at hd
  split at hd
  · cases hd
    obtain ⟨x, rfl, b1⟩ := b.one
    cases b1.isInt
    exact ⟨_, rfl, q F H _ (Ext.refl s) (.int _)⟩
  · cases hd
def intD : List D → Option D
  | [.int i] => some (.int i)
  | [.bl k] => some (.int (if k then 1 else 0))
  | _ => none
theorem opA_int : OpA K (fun xs H Q => (∃ i, xs = [.int i] ∧ Q (.int i) H) ∨ ∃ k, xs = [.bl k] ∧ Q (.int (if k then 1 else 0)) H) intD := fun {F H xs ds d Q} s b hd q => by
  unfold intD at hd
  split at hd
  · cases hd
    obtain ⟨x, rfl, b1⟩ := b.one
    cases b1.isInt
    exact .inl ⟨_, rfl, q F H _ (Ext.refl s) (.int _)⟩
  · cases hd
    obtain ⟨x, rfl, b1⟩ := b.one
    cases b1.isBl
    exact .inr ⟨_, rfl, q F H _ (Ext.refl s) (.int _)⟩
  · cases hd
def maxD : List D → Option D
  | [.int i, .int j] => some (.int (if j > i then j else i))
  | _ => none
def minD : List D → Option D
  | [.int i, .int j] => some (.int (if j < i then j else i))
  | _ => none
theorem opA_max : OpA K (fun xs H Q => ∃ i j, xs = [.int i, .int j] ∧ Q (.int (if j > i then j else i)) H) maxD := fun {F H xs ds d Q} s b hd q => by
  unfold maxD at hd
  split at hd
  · cases hd
    obtain ⟨x, y, rfl, b1, c1⟩ := b.two
    cases b1.isInt; cases c1.isInt
    exact ⟨_, _, rfl, q F H _ (Ext.refl s) (.int _)⟩
  · cases hd
theorem opA_min : OpA K (fun xs H Q => ∃ i j, xs = [.int i, .int j] ∧ Q (.int (if j < i then j else i)) H) minD := fun {F H xs ds d Q} s b hd q => by
  unfold minD at hd
  split at hd
  · cases hd
    obtain ⟨x, y, rfl, b1, c1⟩ := b.two
    cases b1.isInt; cases c1.isInt
    exact ⟨_, _, rfl, q F H _ (Ext.refl s) (.int _)⟩
  · cases hd
def allBl : List D → Option (List Bool)
  | [] => some []
  | d :: r => (asB d).bind fun b => (allBl r).map fun c => b :: c
theorem allBl_iff : ∀ {ds : List D} {bs : List Bool}, allBl ds = some bs → ds = bs.map .bl
  | [], _, h => by cases h; rfl
  | d :: r, _, h => by
    obtain ⟨b, h1, h⟩ := Option.bind_eq_some_iff.mp h
    obtain ⟨c, h2, h⟩ := Option.map_eq_some_iff.mp h
    cases h
    rw [asB_iff h1, allBl_iff h2]; rfl
def allD : List D → Option D
  | [.lst xs] => (allBl xs).map fun bs => .bl (bs.all id)
  | _ => none
theorem opA_all : OpA K (rAll K) allD := fun {F H xs ds d Q} s b hd q => by
  unfold allD at hd
  split at hd
  · obtain ⟨bs, h, hd⟩ := Option.map_eq_some_iff.mp hd
    cases hd
    obtain ⟨x, rfl, b1⟩ := b.one
    obtain ⟨a, xs, rfl, ha, rx⟩ := b1.isLst s
    rw [allBl_iff h] at rx
    rw [rx.ofBls] at ha
    exact ⟨a, bs, rfl, .inl (.inl ha), q F H _ (Ext.refl s) (.bl _)⟩
  · cases hd
/-- list(x), tuple(x) -/
def listD : List D → Option D
  | [.lst xs] => some (.lst xs)
  | [.tup xs] => some (.lst xs)
  | _ => none
def tupleD : List D → Option D
  | [.lst xs] => some (.hup xs)
  | [.tup xs] => some (.tup xs)
  | _ => none
theorem opAN_list : OpAN K (fun xs H Q => ∃ p ys, xs = [.ref p] ∧ (SqL K H p ys ∨ SqT K H p ys) ∧ ∀ l, H l = none → Q (.ref l) (upd H l (.lst ys))) listD := fun {F H xs ds d Q} s b hd q => by
  unfold listD at hd
  split at hd
  · cases hd
    obtain ⟨x, rfl, b1⟩ := b.one
    obtain ⟨a, xs, rfl, ha, rx⟩ := b1.isLst s
    exact ⟨a, xs, rfl, .inl (.inl (.inl ha)), fun p n => q p _ n ⟨s.free n, _, upd_same, rx⟩⟩
  · cases hd
    obtain ⟨x, rfl, b1⟩ := b.one
    obtain ⟨a, xs, rfl, ha, rx, _⟩ := b1.isTup s
    exact ⟨a, xs, rfl, .inr ha, fun p n => q p _ n ⟨s.free n, _, upd_same, rx⟩⟩
  · cases hd
theorem opA_tuple : OpA K (fun xs H Q => ∃ p ys, xs = [.ref p] ∧ ((SqL K H p ys ∧ ∀ l, H l = none → Q (.ref l) (upd H l (.tup ys))) ∨ (SqT K H p ys ∧ Q (.ref p) H))) tupleD := fun {F H xs ds d Q} s b hd q => by
  unfold tupleD at hd
  split at hd
  · cases hd
    obtain ⟨x, rfl, b1⟩ := b.one
    obtain ⟨a, xs, rfl, ha, rx⟩ := b1.isLst s
    refine ⟨a, xs, rfl, .inl ⟨.inl (.inl ha), fun p n => ?_⟩⟩
    have x := Ext.new (o := .tup xs) s n
    exact q _ _ _ x (.hup upd_same (rx.mono x.f))
  · cases hd
    obtain ⟨x, rfl, b1⟩ := b.one
    obtain ⟨a, xs, rfl, ha, rx, hf⟩ := b1.isTup s
    exact ⟨a, xs, rfl, .inr ⟨ha, q F H _ (Ext.refl s) (.tup hf rx)⟩⟩
  · cases hd
end Dk
set_option exponentiation.threshold 256
namespace Dk
open PySem PySem.Spec PyProof.Rows L2
variable [TabP]
section
variable {X : Cx} {a b c e : Expr} {es : List Expr} {ma mb mc m : ME} {pos : Pos} {k : Nat}
theorem d_var (i : Nat) {x : Str} (hN : X.N[i]? = some x := by rfl) (hv : Vis X.env.scope x := by first | exact Or.inl rfl | exact Or.inr (Or.inl rfl) | exact Or.inr (Or.inr rfl)) (hd : (x == ("__debug__" : Str)) = false := by decide)
    (hcd : (x == ("__classdict__" : Str)) = false := by decide) : PE X (.Name x pos) (rE X.K (varM i)) := toE (pe_var hN hv hd hcd) (sim_var i)
theorem d_int {i : Int} {j : Nat} : PE X (.Constant (.int i) j pos) (rE X.K (cM (.int i))) := toE pe_int (sim_int i)
theorem d_str {i : Str} {j : Nat} : PE X (.Constant (.str i) j pos) (rE X.K (cM (.str i))) := toE pe_str (sim_str i)
theorem d_bl {i : Bool} {j : Nat} : PE X (.Constant (.bool i) j pos) (rE X.K (cM (.bl i))) := toE pe_bl (sim_bl i)
theorem d_non {j : Nat} : PE X (.Constant .none j pos) (rE X.K (cM .non)) := toE pe_non sim_non
/-- a constant of the module -/
theorem d_glob {x : Str} {v : V} {u : Value} {d : D} (hm : X.mg x = some u) (r : RelV v u) (h : ∀ F : Hp, Rp X.K F v d) (hg : Gl X x := by rfl) (hd : (x == ("__debug__" : Str)) = false := by decide) : PE X (.Name x pos) (rE X.K (cM d)) := toE (pe_glob hg hm r hd) (sim_cst h)
theorem d_frz {m : MN} (h : PE X e (rN X.K m)) : PE X e (rE X.K (frzM m)) := toE h (sim_frz sim_rN)
theorem d_op {op : Operator} {r : R2} {f : D → D → Option D} (ho : OpR X (binaryOp op) r) (h2 : Op2 X.K r f) (ha : PE X a (rE X.K ma)) (hb : PE X b (rE X.K mb)) : PE X (.BinOp a op b pos) (rE X.K (binM f ma mb)) := toE (pe_op ho ha hb) (sim_op h2 sim_rE sim_rE)
theorem d_opN {op : Operator} {r : R2} {f : D → D → Option D} (ho : OpR X (binaryOp op) r) (h2 : Op2N X.K r f) (ha : PE X a (rE X.K ma)) (hb : PE X b (rE X.K mb)) : PE X (.BinOp a op b pos) (rN X.K (binN f ma mb)) := toN (pe_op ho ha hb) (sim_op2N h2 sim_rE sim_rE)
theorem d_add (ha : PE X a (rE X.K ma)) (hb : PE X b (rE X.K mb)) : PE X (.BinOp a .Add b pos) (rE X.K (binM addD ma mb)) := d_op opr_add op2_add ha hb
theorem d_addN (ha : PE X a (rE X.K ma)) (hb : PE X b (rE X.K mb)) : PE X (.BinOp a .Add b pos) (rN X.K (binN addL ma mb)) := d_opN op_cat op2N_add ha hb
theorem d_sub (ha : PE X a (rE X.K ma)) (hb : PE X b (rE X.K mb)) : PE X (.BinOp a .Sub b pos) (rE X.K (binM subD ma mb)) := d_op op_sub op2_sub ha hb
theorem d_mul (ha : PE X a (rE X.K ma)) (hb : PE X b (rE X.K mb)) : PE X (.BinOp a .Mult b pos) (rE X.K (binM mulI ma mb)) := d_op op_mulW op2_mul ha hb
theorem d_repN (ha : PE X a (rE X.K ma)) (hb : PE X b (rE X.K mb)) : PE X (.BinOp a .Mult b pos) (rN X.K (binN repL ma mb)) := d_opN op_rep op2N_rep ha hb
theorem d_div (ha : PE X a (rE X.K ma)) (hb : PE X b (rE X.K mb)) : PE X (.BinOp a .FloorDiv b pos) (rE X.K (binM divD ma mb)) := d_op op_fdivW op2_div ha hb
theorem d_mod (ha : PE X a (rE X.K ma)) (hb : PE X b (rE X.K mb)) : PE X (.BinOp a .Mod b pos) (rE X.K (binM modD ma mb)) := d_op op_mod op2_mod ha hb
theorem d_pow (ha : PE X a (rE X.K ma)) (hb : PE X b (rE X.K mb)) : PE X (.BinOp a .Pow b pos) (rE X.K (binM powD ma mb)) := d_op op_powW op2_pow ha hb
theorem d_neg (ha : PE X a (rE X.K ma)) : PE X (.UnaryOp .USub a pos) (rE X.K (unM (u1 fun i => .int (-i)) ma)) := toE (pe_un un_neg ha) (sim_un op1_neg sim_rE)
theorem d_cmp {op : CmpOp} {r : R2} {f : D → D → Option D} (ho : OpR X (compareOp op) r) (h2 : Op2 X.K r f) (ha : PE X a (rE X.K ma)) (hb : PE X b (rE X.K mb)) (hm : behindInMarks op b = false) : PE X (.Compare a [op] [b] pos) (rE X.K (binM f ma mb)) := toE (pe_cmpR ho ha hb hm) (sim_op h2 sim_rE sim_rE)
theorem d_lt (ha : PE X a (rE X.K ma)) (hb : PE X b (rE X.K mb)) : PE X (.Compare a [.Lt] [b] pos) (rE X.K (binM ltD ma mb)) := d_cmp opr_lt op2_cmp ha hb (nomark _)
theorem d_le (ha : PE X a (rE X.K ma)) (hb : PE X b (rE X.K mb)) : PE X (.Compare a [.LtE] [b] pos) (rE X.K (binM leD ma mb)) := d_cmp opr_le op2_cmp ha hb (nomark _)
theorem d_eq (hr : Room k X.A) (ha : PE X a (rE X.K ma)) (hb : PE X b (rE X.K mb)) : PE X (.Compare a [.Eq] [b] pos) (rE X.K (binM eqD ma mb)) := d_cmp (op_eqD hr.units) op2_eq ha hb (nomark _)
theorem d_chain {o1 o2 : CmpOp} {r r' : R2} {f g : D → D → Option D} (ho : OpR X (compareOp o1) r) (ho' : OpR X (compareOp o2) r') (h2 : Op2 X.K r f) (h3 : Op2 X.K r' g) (ha : PE X a (rE X.K ma)) (hb : PE X b (rE X.K mb)) (hc : PE X c (rE X.K mc))
    (hm : lastMarks [o1, o2] [b, c] = false := by with_unfolding_all rfl) : PE X (.Compare a [o1, o2] [b, c] pos) (rE X.K (chM f g ma mb mc)) := toE (pe_chain ho ho' ha hb hc hm) (sim_chain h2 h3 sim_rE sim_rE sim_rE)
theorem d_lele (ha : PE X a (rE X.K ma)) (hb : PE X b (rE X.K mb)) (hc : PE X c (rE X.K mc)) (hm : lastMarks [.LtE, .LtE] [b, c] = false := by with_unfolding_all rfl) : PE X (.Compare a [.LtE, .LtE] [b, c] pos) (rE X.K (chM leD leD ma mb mc)) := d_chain opr_le opr_le op2_cmp op2_cmp ha hb hc hm
theorem t_val (h : PE X e (rE X.K m)) (he : ∀ whole, isTrue e X.env whole = (do let v ← whole; standAt e.pos; holding [v] (truthy v)) := by intro _; rfl) : PT X e (rT X.K (bM m)) := toT (pt_val h he) (sim_tB sim_rE)
theorem t_cmp {op : CmpOp} {r : R2} {f : D → D → Option D} (ho : OpR X (compareOp op) r) (h2 : Op2 X.K r f) (ha : PE X a (rE X.K ma)) (hb : PE X b (rE X.K mb)) (hm : behindInMarks op b = false) : PT X (.Compare a [op] [b] pos) (rT X.K (bM (binM f ma mb))) := toT (pt_cmpR ho ha hb hm) (sim_tTest (sim_op h2 sim_rE sim_rE))
theorem t_lt (ha : PE X a (rE X.K ma)) (hb : PE X b (rE X.K mb)) : PT X (.Compare a [.Lt] [b] pos) (rT X.K (bM (binM ltD ma mb))) := t_cmp opr_lt op2_cmp ha hb (nomark _)
theorem t_gt (ha : PE X a (rE X.K ma)) (hb : PE X b (rE X.K mb)) : PT X (.Compare a [.Gt] [b] pos) (rT X.K (bM (binM gtD ma mb))) := t_cmp opr_gt op2_cmp ha hb (nomark _)
theorem t_eq (hr : Room k X.A) (ha : PE X a (rE X.K ma)) (hb : PE X b (rE X.K mb)) : PT X (.Compare a [.Eq] [b] pos) (rT X.K (bM (binM eqD ma mb))) := t_cmp (op_eqD hr.units) op2_eq ha hb (nomark _)
theorem t_ne (hr : Room k X.A) (ha : PE X a (rE X.K ma)) (hb : PE X b (rE X.K mb)) : PT X (.Compare a [.NotEq] [b] pos) (rT X.K (bM (binM neD ma mb))) := t_cmp (op_neD hr.units) op2_ne ha hb (nomark _)
theorem t_is (ha : PE X a (rE X.K ma)) (hb : PE X b (rE X.K mb)) : PT X (.Compare a [.Is] [b] pos) (rT X.K (bM (binM isNonD ma mb))) := t_cmp op_isN op2_isN ha hb (nomark _)
theorem t_isnot (ha : PE X a (rE X.K ma)) (hb : PE X b (rE X.K mb)) : PT X (.Compare a [.IsNot] [b] pos) (rT X.K (bM (binM notNonD ma mb))) := t_cmp op_notN op2_notN ha hb (nomark _)
theorem t_lele (ha : PE X a (rE X.K ma)) (hb : PE X b (rE X.K mb)) (hc : PE X c (rE X.K mc)) (hm : lastMarks [.LtE, .LtE] [b, c] = false := by with_unfolding_all rfl) : PT X (.Compare a [.LtE, .LtE] [b, c] pos) (rT X.K (bM (chM leD leD ma mb mc))) :=
  toT (pt_chain opr_le opr_le ha hb hc hm) (sim_tTest (sim_chain op2_cmp op2_cmp sim_rE sim_rE sim_rE))
theorem t_not {m : MT} (h : PT X a (rT X.K m)) : PT X (.UnaryOp .Not a pos) (rT X.K (notT m)) := toT (pt_not h) (sim_not sim_rT)
theorem w_and1 {m : MT} (h : PT X a (rT X.K m)) : PW X (.BoolOp .And [a] pos) (rT X.K m) := pw_and1 h
theorem w_or1 {m : MT} (h : PT X a (rT X.K m)) : PW X (.BoolOp .Or [a] pos) (rT X.K m) := pw_or1 h
theorem w_and {m n : MT} (h : PT X a (rT X.K m)) (r : PW X (.BoolOp .And (b :: es) pos) (rT X.K n)) : PW X (.BoolOp .And (a :: b :: es) pos) (rT X.K (andT m n)) := toW (pw_and h r) (sim_and sim_rT sim_rT)
theorem w_or {m n : MT} (h : PT X a (rT X.K m)) (r : PW X (.BoolOp .Or (b :: es) pos) (rT X.K n)) : PW X (.BoolOp .Or (a :: b :: es) pos) (rT X.K (orT m n)) := toW (pw_or h r) (sim_or sim_rT sim_rT)
theorem t_w {m : MT} (h : PW X e (rT X.K m)) : PT X e (rT X.K m) := h.pt
/-- and, or, not as values -/
theorem d_one {op : BoolOp} (h : PE X a (rE X.K m)) : PE X (.BoolOp op [a] pos) (rE X.K m) := pe_one h
theorem d_and (ha : PE X a (rE X.K ma)) (hb : PE X (.BoolOp .And (b :: es) pos) (rE X.K mb)) : PE X (.BoolOp .And (a :: b :: es) pos) (rE X.K (andV ma mb)) := toE (pe_and ha hb) (sim_andV sim_rE sim_rE)
theorem d_not (ha : PE X a (rE X.K ma)) : PE X (.UnaryOp .Not a pos) (rE X.K (notV ma)) := toE (pe_not ha) (sim_notV sim_rE)
theorem d_if {m : MT} (hc : PT X c (rT X.K m)) (ha : PE X a (rE X.K ma)) (hb : PE X b (rE X.K mb)) : PE X (.IfExp c a b pos) (rE X.K (ifM m ma mb)) := toE (pe_ifExp hc ha hb) (sim_if sim_rT sim_rE sim_rE)
theorem a_nil : PA X [] (rA X.K nilA) := toA pa_nil sim_nil
theorem a_cons {mr : MA} (h : PE X e (rE X.K m)) (r : PA X es (rA X.K mr)) (hs : starEach (e :: es) X.env = (false, eval e X.env) :: starEach es X.env := by rfl) : PA X (e :: es) (rA X.K (consA m mr)) := toA (pa_cons h r hs) (sim_cons sim_rE sim_rA)
theorem d_lst {mr : MA} (h : PA X es (rA X.K mr)) : PE X (.List es pos) (rN X.K (lstM mr)) := toN (pe_lst h) (sim_lst sim_rA)
theorem d_tup {mr : MA} {x1 : Nat} (h : PA X es (rA X.K mr)) : PE X (.Tuple es x1 pos) (rE X.K (tupM mr)) := toE (pe_tup h) (sim_tup sim_rA)
theorem d_ix (ha : PE X a (rE X.K ma)) (hb : PE X b (rE X.K mb)) (hs : PlainIx b := by intro _ _; rfl) : PE X (.Subscript a b pos) (rE X.K (binM ixD ma mb)) := toE (pe_ix ix_seq ha hb hs) (sim_op op2_ix sim_rE sim_rE)
theorem d_cb {id : String} {x : Str} {r : List V → Hp → VK → Prop} {f : List D → Option D} {mr : MA} {p : Pos} (hc : CallR X (.builtin id) r) (h2 : OpA X.K r f) (hm : X.mg x = none) (hv : bootBuiltins x = some (.builtin id)) (ha : PA X (e :: es) (rA X.K mr)) (hg : Gl X x := by rfl) (hn : x ≠ "__name__" := by decide) (hdb : (x == ("__debug__" : Str)) = false := by decide)
    (he : starEach (e :: es) X.env = (false, eval e X.env) :: starEach es X.env := by rfl) (hpl : (backTo pos (starEach es X.env)).any (·.1) = false := by rfl) : PE X (.Call (.Name x p) (e :: es) [] pos) (rE X.K (cbM f mr)) := toE (pe_callB hc hg hm hv ha hn hdb he hpl) (sim_cb h2 sim_rA)
theorem d_ct {id : String} {x : Str} {r : List V → Hp → VK → Prop} {f : List D → Option D} {mr : MA} {p : Pos} (hc : CallR X (.type id) r) (h2 : OpA X.K r f) (hm : X.mg x = none) (hv : bootBuiltins x = some (.type id)) (ha : PA X (e :: es) (rA X.K mr)) (hg : Gl X x := by rfl) (hn : x ≠ "__name__" := by decide) (hdb : (x == ("__debug__" : Str)) = false := by decide)
    (he : starEach (e :: es) X.env = (false, eval e X.env) :: starEach es X.env := by rfl) (hpl : (backTo pos (starEach es X.env)).any (·.1) = false := by rfl) : PE X (.Call (.Name x p) (e :: es) [] pos) (rE X.K (cbM f mr)) := toE (pe_callTy hc hg hm hv ha hn hdb he hpl) (sim_cb h2 sim_rA)
theorem d_ctN {id : String} {x : Str} {r : List V → Hp → VK → Prop} {f : List D → Option D} {mr : MA} {p : Pos} (hc : CallR X (.type id) r) (h2 : OpAN X.K r f) (hm : X.mg x = none) (hv : bootBuiltins x = some (.type id)) (ha : PA X (e :: es) (rA X.K mr)) (hg : Gl X x := by rfl) (hn : x ≠ "__name__" := by decide) (hdb : (x == ("__debug__" : Str)) = false := by decide)
    (he : starEach (e :: es) X.env = (false, eval e X.env) :: starEach es X.env := by rfl) (hpl : (backTo pos (starEach es X.env)).any (·.1) = false := by rfl) : PE X (.Call (.Name x p) (e :: es) [] pos) (rN X.K (cbN f mr)) := toN (pe_callTy hc hg hm hv ha hn hdb he hpl) (sim_cbN h2 sim_rA)
theorem d_len {mr : MA} {p : Pos} (hm : X.mg "len" = none) (ha : PA X (e :: es) (rA X.K mr)) (hg : Gl X "len" := by rfl) (he : starEach (e :: es) X.env = (false, eval e X.env) :: starEach es X.env := by rfl) (hpl : (backTo pos (starEach es X.env)).any (·.1) = false := by rfl) :
    PE X (.Call (.Name "len" p) (e :: es) [] pos) (rE X.K (cbM lenD mr)) := d_cb cr_len opA_len hm PySem.boot_len ha hg (by decide) (by decide) he hpl
theorem d_abs {mr : MA} {p : Pos} (hm : X.mg "abs" = none) (ha : PA X (e :: es) (rA X.K mr)) (hg : Gl X "abs" := by rfl) (he : starEach (e :: es) X.env = (false, eval e X.env) :: starEach es X.env := by rfl) (hpl : (backTo pos (starEach es X.env)).any (·.1) = false := by rfl) :
    PE X (.Call (.Name "abs" p) (e :: es) [] pos) (rE X.K (cbM absD mr)) := d_cb call_abs opA_abs hm (by decide +kernel) ha hg (by decide) (by decide) he hpl
theorem d_max {mr : MA} {p : Pos} (hc : X.calm = true) (hm : X.mg "max" = none) (ha : PA X (e :: es) (rA X.K mr)) (hg : Gl X "max" := by rfl) (he : starEach (e :: es) X.env = (false, eval e X.env) :: starEach es X.env := by rfl) (hpl : (backTo pos (starEach es X.env)).any (·.1) = false := by rfl) :
    PE X (.Call (.Name "max" p) (e :: es) [] pos) (rE X.K (cbM maxD mr)) := d_cb (call_max2 hc) opA_max hm (by decide +kernel) ha hg (by decide) (by decide) he hpl
theorem d_min {mr : MA} {p : Pos} (hc : X.calm = true) (hm : X.mg "min" = none) (ha : PA X (e :: es) (rA X.K mr)) (hg : Gl X "min" := by rfl) (he : starEach (e :: es) X.env = (false, eval e X.env) :: starEach es X.env := by rfl) (hpl : (backTo pos (starEach es X.env)).any (·.1) = false := by rfl) :
    PE X (.Call (.Name "min" p) (e :: es) [] pos) (rE X.K (cbM minD mr)) := d_cb (call_min2 hc) opA_min hm (by decide +kernel) ha hg (by decide) (by decide) he hpl
theorem d_all {mr : MA} {p : Pos} (hc : X.calm = true) (hm : X.mg "all" = none) (ha : PA X (e :: es) (rA X.K mr)) (hg : Gl X "all" := by rfl) (he : starEach (e :: es) X.env = (false, eval e X.env) :: starEach es X.env := by rfl) (hpl : (backTo pos (starEach es X.env)).any (·.1) = false := by rfl) :
    PE X (.Call (.Name "all" p) (e :: es) [] pos) (rE X.K (cbM allD mr)) := d_cb (cr_all hc) opA_all hm (by decide +kernel) ha hg (by decide) (by decide) he hpl
theorem d_intc {mr : MA} {p : Pos} (hm : X.mg "int" = none) (ha : PA X (e :: es) (rA X.K mr)) (hg : Gl X "int" := by rfl) (he : starEach (e :: es) X.env = (false, eval e X.env) :: starEach es X.env := by rfl) (hpl : (backTo pos (starEach es X.env)).any (·.1) = false := by rfl) :
    PE X (.Call (.Name "int" p) (e :: es) [] pos) (rE X.K (cbM intD mr)) := d_ct call_int1 opA_int hm (by decide +kernel) ha hg (by decide) (by decide) he hpl
theorem d_tuplec {mr : MA} {p : Pos} (hm : X.mg "tuple" = none) (ha : PA X (e :: es) (rA X.K mr)) (hg : Gl X "tuple" := by rfl) (he : starEach (e :: es) X.env = (false, eval e X.env) :: starEach es X.env := by rfl) (hpl : (backTo pos (starEach es X.env)).any (·.1) = false := by rfl) :
    PE X (.Call (.Name "tuple" p) (e :: es) [] pos) (rE X.K (cbM tupleD mr)) := d_ct call_tuple_of opA_tuple hm (by decide +kernel) ha hg (by decide) (by decide) he hpl
/-- a def of the text -/
theorem d_call {f : Addr} {fd : FuncData} {ps : List Str} {fm : MS} {x : Str} {mr : MA} {p : Pos} (F : FnD X.prog X.w X.K X.mg X.base k f fd ps fm) (hm : X.mg x = some (.ref f)) (hk : PySem.W.keepIn X.K (.ref f) = true) (hb : Binds X.K fd ps []) (hr : Room k X.A) (hgd : X.A.guards = some []) (ha : PA X (e :: es) (rA X.K mr))
    (hg : Gl X x := by rfl) (hdb : (x == ("__debug__" : Str)) = false := by decide) (he : starEach (e :: es) X.env = (false, eval e X.env) :: starEach es X.env := by rfl) (hpl : (backTo pos (starEach es X.env)).any (·.1) = false := by rfl) :
    PE X (.Call (.Name x p) (e :: es) [] pos) (rE X.K (callM fm mr)) := toE (pe_callD F hr hgd hg hm hk hb ha hdb he hpl) (sim_call sim_rA)
theorem d_callN {f : Addr} {fd : FuncData} {ps : List Str} {fm : MS} {x : Str} {mr : MA} {p : Pos} (F : FnD X.prog X.w X.K X.mg X.base k f fd ps fm) (hm : X.mg x = some (.ref f)) (hk : PySem.W.keepIn X.K (.ref f) = true) (hb : Binds X.K fd ps []) (hr : Room k X.A) (hgd : X.A.guards = some []) (ha : PA X (e :: es) (rA X.K mr))
    (hg : Gl X x := by rfl) (hdb : (x == ("__debug__" : Str)) = false := by decide) (he : starEach (e :: es) X.env = (false, eval e X.env) :: starEach es X.env := by rfl) (hpl : (backTo pos (starEach es X.env)).any (·.1) = false := by rfl) :
    PE X (.Call (.Name x p) (e :: es) [] pos) (rN X.K (callN fm mr)) := toN (pe_callD F hr hgd hg hm hk hb ha hdb he hpl) (sim_callN sim_rA)
theorem d_callC (i : Nat) {f : Addr} {fd : FuncData} {ps : List Str} {fm : MS} {x y : Str} {mr : MA} {p py : Pos} (F : FnD X.prog X.w X.K X.mg X.base k f fd ps fm) (hm : X.mg x = some (.ref f)) (hk : PySem.W.keepIn X.K (.ref f) = true) (hb : Binds X.K fd ps []) (hr : Room k X.A) (hgd : X.A.guards = some [])
    (ha : PA X es (rA X.K mr)) (hN : X.N[i]? = some y := by rfl) (hv : Vis X.env.scope y := by first | exact Or.inl rfl | exact Or.inr (Or.inl rfl) | exact Or.inr (Or.inr rfl)) (hd : (y == ("__debug__" : Str)) = false := by decide)
    (hcd : (y == ("__classdict__" : Str)) = false := by decide) (hg : Gl X x := by rfl) (hdb : (x == ("__debug__" : Str)) = false := by decide) (he : starEach (.Name y py :: es) X.env = (false, eval (.Name y py) X.env) :: starEach es X.env := by rfl) (hpl : (backTo pos (starEach es X.env)).any (·.1) = false := by rfl) :
    PE X (.Call (.Name x p) (.Name y py :: es) [] pos) (rE X.K (callC i fm mr)) := toE (pe_callD F hr hgd hg hm hk hb (pa_cons (pe_var hN hv hd hcd) ha he) hdb he hpl) (sim_callC sim_rA)
theorem g_name (i : Nat) {x : Str} (hN : X.N.Nodup) (hi : X.N[i]? = some x := by rfl) (hx : Loc X.env.scope x := by first | exact Or.inl rfl | exact Or.inr rfl) (hf : X.fn x = true ∨ X.env.scope.names.lookup x = some .local := by first | exact .inl rfl | exact .inr rfl) : PG X (.Name x pos) (rG X.K [i] (nameG i)) := toG (pg_name hN hi hx hf) (sim_gName i)
theorem i_lst {tg : Expr} (h : PE X e (rE X.K m)) : PI X tg e (rIt X.K (itL m)) := toI (pi_list h) (sim_itL sim_rE)
theorem i_str {tg : Expr} (h : PE X e (rE X.K m)) : PI X tg e (rIt X.K (itS m)) := toI (pi_str h) (sim_itS sim_rE)
theorem i_rng1 {tg : Expr} {mr : MA} {p : Pos} (hm : X.mg "range" = none) (ha : PA X [a] (rA X.K mr)) (hg : Gl X "range" := by rfl) (hs : starEach [a] X.env = [(false, eval a X.env)] := by rfl) : PI X tg (.Call (.Name "range" p) [a] [] pos) (rIt X.K (itR1 mr)) := toI (pi_range1 hg hm ha hs) (sim_itR1 sim_rA)
theorem i_rng2 {tg : Expr} {mr : MA} {p : Pos} (hm : X.mg "range" = none) (ha : PA X [a, b] (rA X.K mr)) (hg : Gl X "range" := by rfl) (hs : starEach [a, b] X.env = [(false, eval a X.env), (false, eval b X.env)] := by rfl) (hs2 : starEach [b] X.env = [(false, eval b X.env)] := by rfl) : PI X tg (.Call (.Name "range" p) [a, b] [] pos) (rIt X.K (itR2 mr)) := toI (pi_range2 hg hm ha hs hs2) (sim_itR2 sim_rA)
theorem c_no : PTs X [] (rT X.K yesM) := ⟨fun pins sh σ H Q I ⟨_, _, _, _, _, _, _, _, W, hm, q⟩ => pts_nil.run pins sh σ H Q I (sim_yes.run W hm q)⟩
theorem c_one {m : MT} (h : PT X c (rT X.K m)) : PTs X [c] (rT X.K m) := pts_one h
theorem d_lc {tg iter : Expr} {ifs : List Expr} {scope : Scope} (own : List (Str × Nat)) {mi : MI} {js : List Nat} {g : MG} {t : MT} (hc : X.calm = true) (hN : X.N.Nodup) (hi : PI X tg iter (rIt X.K mi)) (ok : blkC X.N X.env.scope scope own = true)
    (hg : ∀ (s : Shared) (H : Hp) (C : Addr) (cl : List (Str × Addr)) (fp : List Addr), PG (X.blk s H scope (compEnvC scope cl C X.env) fp) tg (rG X.K js g)) (ht : ∀ (s : Shared) (H : Hp) (C : Addr) (cl : List (Str × Addr)) (fp : List Addr), PTs (X.blk s H scope (compEnvC scope cl C X.env) fp) ifs (rT X.K t))
    (he : ∀ (s : Shared) (H : Hp) (C : Addr) (cl : List (Str × Addr)) (fp : List Addr), PE (X.blk s H scope (compEnvC scope cl C X.env) fp) e (rE X.K m)) (hj : ∀ j ∈ js, j ∈ own.map (·.2) := by decide) (hs : ∀ x, foldedSetIterable iter X.env x = pure x := by intro _; rfl) :
    PE X (.ListComp e [⟨tg, iter, ifs, 0⟩] scope pos) (rN X.K (cpM mi g t m (own.map (·.2)))) := toN (pe_lc hc hN hi (blkOk_by ok) hg ht he hs) (sim_lc sim_rI sim_rG sim_rT sim_rE hj)
variable {st : Stmt} {sts : List Stmt} {n n2 : MS}
theorem s_nil : PSs X [] (rS X.K nxM) := toSs pss_nil sim_next
theorem s_cons (h : PS X st (rS X.K n)) (r : PSs X sts (rS X.K n2)) : PSs X (st :: sts) (rS X.K (seqM n n2)) := toSs (pss_cons h r) (sim_seq sim_rS sim_rS)
theorem s_one (h : PS X st (rS X.K n)) : PSs X [st] (rS X.K n) := pss_one h
theorem s_never : PS X st (rS X.K noM) := toS ps_never sim_never
theorem s_neverB : PSs X sts (rS X.K noM) := toSs pss_never sim_never
theorem s_expr (h : PE X e (rE X.K m)) (hs : swapsWith e none pos.line X.env = pure false := by rfl) : PS X (.Expr e pos) (rS X.K (exM m)) := toS (ps_expr h hs) (sim_drop sim_rE)
theorem s_ret (h : PE X e (rE X.K m)) : PS X (.Return (some e) pos) (rS X.K (retM m)) := toS (ps_ret h) (sim_ret sim_rE)
theorem s_retN {m : MN} (h : PE X e (rN X.K m)) : PS X (.Return (some e) pos) (rS X.K (retN m)) := toS (ps_ret h) (sim_retN sim_rN)
theorem s_retO (i : Nat) {x : Str} {p : Pos} (hN : X.N[i]? = some x := by rfl) (hv : Vis X.env.scope x := by first | exact Or.inl rfl | exact Or.inr (Or.inl rfl) | exact Or.inr (Or.inr rfl)) (hd : (x == ("__debug__" : Str)) = false := by decide)
    (hcd : (x == ("__classdict__" : Str)) = false := by decide) : PS X (.Return (some (.Name x p)) pos) (rS X.K (retO i)) := toS (ps_ret (pe_var hN hv hd hcd)) (sim_retO i)
theorem s_if {m : MT} {st2 : List Stmt} (hc : PT X c (rT X.K m)) (h : PSs X sts (rS X.K n)) (h2 : PSs X st2 (rS X.K n2)) : PS X (.If c sts st2 pos) (rS X.K (ifS m n n2)) := toS (ps_if hc h h2) (sim_ifS sim_rT sim_rS sim_rS)
theorem s_set (i : Nat) {x : Str} {p : Pos} (hN : X.N.Nodup) (he : PE X e (rE X.K m)) (hi : X.N[i]? = some x := by rfl) (hx : Loc X.env.scope x := by first | exact Or.inl rfl | exact Or.inr rfl) (hs : swapsWith e (some (.Name x p)) pos.line X.env = pure false := by rfl) (hf : X.fn x = true ∨ X.env.scope.names.lookup x = some .local := by first | exact .inl rfl | exact .inr rfl) :
    PS X (.Assign [.Name x p] e pos) (rS X.K (asgM m (nameG i))) := toS (ps_set hN hi hx he hs hf) (sim_asg sim_rE (sim_gName i))
theorem s_setN (i : Nat) {x : Str} {p : Pos} {m : MN} (hN : X.N.Nodup) (he : PE X e (rN X.K m)) (hi : X.N[i]? = some x := by rfl) (hx : Loc X.env.scope x := by first | exact Or.inl rfl | exact Or.inr rfl) (hs : swapsWith e (some (.Name x p)) pos.line X.env = pure false := by rfl) (hf : X.fn x = true ∨ X.env.scope.names.lookup x = some .local := by first | exact .inl rfl | exact .inr rfl) :
    PS X (.Assign [.Name x p] e pos) (rS X.K (asgN m i)) := toS (ps_set hN hi hx he hs hf) (sim_asgN sim_rN)
theorem s_for {tg iter : Expr} {mi : MI} {js : List Nat} {g : MG} (hc : X.calm = true) (hi : PI X tg iter (rIt X.K mi)) (hg : PG X tg (rG X.K js g)) (hb : PSs X sts (rS X.K n)) (hp : PassesOwn (model X.prog X.w) X.A X.env X.xe) (hs : ∀ x, foldedSetIterable iter X.env x = pure x := by intro _; rfl) :
    PS X (.For tg iter sts [] pos) (rS X.K (forM mi g n)) := toS (ps_for hp hc hi hg hb hs) (sim_for sim_rI sim_rG sim_rS)
/-- xs[i] = e -/
theorem s_setIx (i : Nat) {x : Str} {p p2 : Pos} (he : PE X e (rE X.K m)) (ha : PE X a (rE X.K ma)) (hN : X.N[i]? = some x := by rfl) (hv : Vis X.env.scope x := by first | exact Or.inl rfl | exact Or.inr (Or.inl rfl) | exact Or.inr (Or.inr rfl)) (hd : (x == ("__debug__" : Str)) = false := by decide)
    (hcd : (x == ("__classdict__" : Str)) = false := by decide) (hs : swapsWithSole [.Subscript (.Name x p) a p2] e pos.line X.env = pure false := by rfl) (hw : swappedStores [.Subscript (.Name x p) a p2] e X.env = pure none := by rfl)
    (h1 : (assignEach [.Subscript (.Name x p) a p2] X.env).map (·.2) = [assign (.Subscript (.Name x p) a p2) X.env] := by rfl)
    (hA : ∀ v, assign (.Subscript (.Name x p) a p2) X.env v = (do
      let ov ← holding [v] (eval (.Name x p) X.env)
      let iv ← holding [v, ov] (eval a X.env)
      standAt p2
      holding [v, ov, iv] (setItem ov iv v)
      release [v, ov, iv] []) := by intro _; rfl) :
    PS X (.Assign [.Subscript (.Name x p) a p2] e pos) (rS X.K (setM i m ma)) := toS (ps_asg he (pg_sub (pe_var hN hv hd hcd) ha set_list hA) hs hw h1) (sim_setL sim_rE sim_rE)
theorem s_par (i j : Nat) {x y : Str} {mr : MA} {px py pt pt2 : Pos} {kt k2 : Nat} (hc : X.calm = true) (hN : X.N.Nodup) (ha : PA X [a, b] (rA X.K mr)) (hi : X.N[i]? = some x := by rfl) (hj : X.N[j]? = some y := by rfl) (hij : i ≠ j := by decide)
    (hx : X.env.scope.names.lookup x = some .local := by rfl) (hy : X.env.scope.names.lookup y = some .local := by rfl)
    (hw : swappedStores [.Tuple [.Name x px, .Name y py] kt pt] (.Tuple [a, b] k2 pt2) X.env = pure (some [x, y]) := by rfl)
    (hs : swapsWithSole [.Tuple [.Name x px, .Name y py] kt pt] (.Tuple [a, b] k2 pt2) pos.line X.env = pure false := by rfl) :
    PS X (.Assign [.Tuple [.Name x px, .Name y py] kt pt] (.Tuple [a, b] k2 pt2) pos) (rS X.K (parM i j mr)) := toS (ps_par hc hN hi hj hij hx hy ha hw hs) (sim_par sim_rA)
/-- xs.append(e), xs.pop(e) -/
theorem d_app (i : Nat) {x : Str} {p ap : Pos} (he : PE X e (rE X.K m)) (hN : X.N[i]? = some x := by rfl) (hv : Vis X.env.scope x := by first | exact Or.inl rfl | exact Or.inr (Or.inl rfl) | exact Or.inr (Or.inr rfl)) (hd : (x == ("__debug__" : Str)) = false := by decide)
    (hcd : (x == ("__classdict__" : Str)) = false := by decide) (hs : starEach [e] X.env = (false, eval e X.env) :: starEach [] X.env := by rfl) (hbase : attributeBase (.Name x p) "append" X.env (eval (.Name x p) X.env) = eval (.Name x p) X.env := by rfl)
    (hfew : ((backTo pos (starEach [e] X.env)).all (fun x => !x.1) && (backToKw pos (keywordEach [] X.env)).all (fun x => x.1.isSome)
      && decide ([e].length + ([] : List Keyword).length + (if ([] : List Keyword).isEmpty then 0 else 1) < 30)) = true := by rfl)
    (hline : (ap.endLine == pos.line) = true := by rfl) (hplain : (backTo pos (starEach ([] : List Expr) X.env)).any (·.1) = false := by rfl) :
    PE X (.Call (.Attribute (.Name x p) "append" ap) [e] [] pos) (rE X.K (appM i m)) :=
  toE (pe_bm PySem.F.plainAttrs_list PySem.F.slot_list_append PySem.F.type_list_append mt_append (pe_var hN hv hd hcd) (pa_cons he pa_nil hs) hbase hfew hline hs hplain) (sim_app sim_rE)
end
end Dk
set_option exponentiation.threshold 256
namespace Dk
open PySem PySem.Spec PyProof.Rows L2
variable [TabP]
/-- a def as the top has left it -/
def DefAt (K : PySem.W.Frag) (mg : Str → Option Value) (x : Str) (st : Stmt) : Prop := ∃ f fd, Fun K x x st f fd ∧ mg x = some (.ref f)
/-- a def that means m -/
def Has (P : Program) (w : World) (K : PySem.W.Frag) (mg : Str → Option Value) (base : Heap) (x : Str) (k : Nat) (ps : List Str) (m : MS) : Prop :=
  ∃ f fd, FnD P w K mg base k f fd ps m ∧ mg x = some (.ref f) ∧ PySem.W.keepIn K (.ref f) = true ∧ Binds K fd ps []
/-- a constant of the module -/
def GlobD (K : PySem.W.Frag) (mg : Str → Option Value) (x : Str) (d : D) : Prop := ∃ v u, mg x = some u ∧ RelV v u ∧ ∀ F : Hp, Rp K F v d
theorem GlobD.d {X : Cx} {x : Str} {d : D} {pos : Pos} (h : GlobD X.K X.mg x d) (hg : Gl X x := by rfl) (hd : (x == ("__debug__" : Str)) = false := by decide) : PE X (.Name x pos) (rE X.K (cM d)) := by
  obtain ⟨v, u, h1, h2, h3⟩ := h
  exact d_glob h1 h2 h3 hg hd
section
variable {P : Program} {w : World} {K : PySem.W.Frag} {mg : Str → Option Value} {base : Heap}
theorem hasD {x : Str} {st : Stmt} {N ps : List Str} {k a n : Nat} {m : MS} (At : DefAt K mg x st) (S : FnScope N ps (defScope st)) (ha : ps.length = a) (hn : N.length - ps.length = n)
    (hbd : ∀ (kV doc pm : Value) (an : Option Addr) (cdv ct : Value) (us : List Value), us.length = ps.length → bindArgs (PySem.W.fnOf x x (defArgs st) (defBody st) (defScope st) .none kV doc pm an cdv ct) ⟨us, []⟩ = pure (ps.zip us))
    (hb : ∀ (f : Addr) (cdv : Value) (A : Around) (outer : List PySem.Env) (s : Shared) (H : Hp), Room k (A.deeper (envOfC x (defScope st) s.heap.objs.size f cdv)) → (A.deeper (envOfC x (defScope st) s.heap.objs.size f cdv)).guards = some [] →
      PSs (cxOf CX0 P w K mg base N x (defScope st) f cdv A outer s H E0).nox (defBody st) (rS K m)) : Has P w K mg base x (k + 1) ps (fnM a n m) := by
  obtain ⟨f, fd, Fu, hm⟩ := At
  exact ⟨f, fd, fnD Fu S ha hn (hb f), hm, Fu.kp, Fu.binds hbd⟩
end
section
variable {X : Cx} {e : Expr} {es : List Expr} {pos : Pos} {k : Nat}
theorem d_callH {ps : List Str} {fm : MS} {x : Str} {mr : MA} {p : Pos} (F : Has X.prog X.w X.K X.mg X.base x k ps fm) (hr : Room k X.A) (hgd : X.A.guards = some []) (ha : PA X (e :: es) (rA X.K mr))
    (hg : Gl X x := by rfl) (hdb : (x == ("__debug__" : Str)) = false := by decide) (he : starEach (e :: es) X.env = (false, eval e X.env) :: starEach es X.env := by rfl) (hpl : (backTo pos (starEach es X.env)).any (·.1) = false := by rfl) :
    PE X (.Call (.Name x p) (e :: es) [] pos) (rE X.K (callM fm mr)) := by
  obtain ⟨f, fd, F, hm, hk, hb⟩ := F
  exact d_call F hm hk hb hr hgd ha hg hdb he hpl
theorem d_callNH {ps : List Str} {fm : MS} {x : Str} {mr : MA} {p : Pos} (F : Has X.prog X.w X.K X.mg X.base x k ps fm) (hr : Room k X.A) (hgd : X.A.guards = some []) (ha : PA X (e :: es) (rA X.K mr))
    (hg : Gl X x := by rfl) (hdb : (x == ("__debug__" : Str)) = false := by decide) (he : starEach (e :: es) X.env = (false, eval e X.env) :: starEach es X.env := by rfl) (hpl : (backTo pos (starEach es X.env)).any (·.1) = false := by rfl) :
    PE X (.Call (.Name x p) (e :: es) [] pos) (rN X.K (callN fm mr)) := by
  obtain ⟨f, fd, F, hm, hk, hb⟩ := F
  exact d_callN F hm hk hb hr hgd ha hg hdb he hpl
theorem d_callCH (i : Nat) {ps : List Str} {fm : MS} {x y : Str} {mr : MA} {p py : Pos} (F : Has X.prog X.w X.K X.mg X.base x k ps fm) (hr : Room k X.A) (hgd : X.A.guards = some [])
    (ha : PA X es (rA X.K mr)) (hN : X.N[i]? = some y := by rfl) (hv : Vis X.env.scope y := by first | exact Or.inl rfl | exact Or.inr (Or.inl rfl) | exact Or.inr (Or.inr rfl)) (hd : (y == ("__debug__" : Str)) = false := by decide)
    (hcd : (y == ("__classdict__" : Str)) = false := by decide) (hg : Gl X x := by rfl) (hdb : (x == ("__debug__" : Str)) = false := by decide) (he : starEach (.Name y py :: es) X.env = (false, eval (.Name y py) X.env) :: starEach es X.env := by rfl) (hpl : (backTo pos (starEach es X.env)).any (·.1) = false := by rfl) :
    PE X (.Call (.Name x p) (.Name y py :: es) [] pos) (rE X.K (callC i fm mr)) := by
  obtain ⟨f, fd, F, hm, hk, hb⟩ := F
  exact d_callC i F hm hk hb hr hgd ha hN hv hd hcd hg hdb he hpl
end
end Dk
set_option exponentiation.threshold 256
namespace Dk
open PySem PySem.Spec PyProof.Rows L2
variable [TabP]
variable {K : PySem.W.Frag}
def tyN : D → String
  | .non => "NoneType"
  | .bl _ => "bool"
  | .int _ => "int"
  | .str _ => "str"
  | .lst _ => "list"
  | .tup _ => "tuple"
  | .dic _ => "dict"
  | .scr _ => "list"
  | .gup _ => "tuple"
  | .hup _ => "tuple"
  | .dit _ => "dict"
  | .obj _ _ => ""
  | .cls _ => ""
def isOb : D → Bool
  | .obj _ _ => true
  | .cls _ => true
  | _ => false
def isiD (T : String) (d : D) : Option D := if isOb d = true then none else (kitB (tyN d) T).map .bl
/-- as TyX, for a locked dict with tuples as keys, too -/
inductive TyY (K : PySem.W.Frag) (H : Hp) : V → Value → Prop where
  | x {x : V} {t : Value} (h : TyX K H x t) : TyY K H x t
  | t {a : Addr} {o : Obj} {kvs : List (List Key × V)} (e : H a = some (.frz o (.dT kvs))) : TyY K H (.ref a) (.type "dict")
theorem kit_ofY {X : Cx} {pins : List (Addr × Obj)} {σ : L2.St} {H : Hp} {s : Shared} {x : V} {u t : Value} (I : Inv X pins σ H s) (rx : RelV x u) (ty : TyY X.K H x t) : ∃ P : Heap → Prop, PySem.W.KitX X.K u t P ∧ P s.heap ∧ u ≠ .builtin "__main__.__loader__#opaque" := by
  cases ty with
  | x h => exact kit_of I rx h
  | @t a ob kvs ea =>
    cases (show u = Value.ref a from rx)
    obtain ⟨_, _, _, xs, _, o, es, ep, h1, h2, _⟩ := (show ObjOk X.prog X.w H s.heap a (.frz ob (.dT kvs)) from I.hok a _ ea)
    exact ⟨_, PySem.W.kitx_dict, ⟨o, h1, h2.1⟩, fun z => nomatch z⟩
def rIsiY (K : PySem.W.Frag) : List V → Hp → VK → Prop := fun xs H Q => ∃ (x c : V) (t u : Value) (b : Bool), xs = [x, c] ∧ ClsV c u ∧ TyY K H x t ∧ PySem.W.kitOne K t u = some b ∧ Q (.bl b) H
theorem call_isiY {X : Cx} : CallR X (.builtin "isinstance") (rIsiY X.K) := by
  intro pins s σ H xs us Q I r h
  obtain ⟨x, c, t, u, b, rfl, k, ty, e, q⟩ := h
  obtain ⟨u1, u2, rfl, r1, r2⟩ := vals2 r
  have e2 := k.eq r2
  subst e2
  obtain ⟨P, Z, p, hx⟩ := kit_ofY I r1 ty
  exact PySem.W.kia_one Z I.kIn p e hx fun tk => ⟨.bl b, H, I.tok tk, rfl, q⟩
theorem SqT.tyX {H : Hp} {a : Addr} {xs : List V} (h : SqT K H a xs) : TyX K H (.ref a) (.type "tuple") := by
  rcases h with (h | ⟨o, h⟩) | ⟨o, its, n, hk, hc, _⟩
  · exact .base (.tup h)
  · exact .fTuple h
  · exact .kTuple hk hc
theorem SqL.tyX {H : Hp} {a : Addr} {xs : List V} (h : SqL K H a xs) : TyX K H (.ref a) (.type "list") := by
  rcases h with (h | ⟨o, h⟩) | ⟨o, its, n, hk, hc, _⟩
  · exact .base (.lst h)
  · exact .base (.frz h)
  · exact .kList hk hc
theorem Bw.tyX {F H : Hp} {x : V} {d : D} (s : Same F H) (b : Bw K F H x d) (no : ¬ isOb d = true) : TyY K H x (.type (tyN d)) := by
  cases d with
  | obj _ _ => exact absurd rfl no
  | cls _ => exact absurd rfl no
  | dit c => obtain ⟨a, xs, rfl, h, _⟩ := b.isDit s; exact h.elim (fun h => .x (.base (.dT h))) fun ⟨_, h⟩ => .t h
  | non => cases b.isNon; exact .x (.base .non)
  | bl c => cases b.isBl; exact .x (.base (.bl _))
  | int c => cases b.isInt; exact .x (.base (.int _))
  | str c => cases b.isStr; exact .x (.base (.str _))
  | lst c => obtain ⟨a, xs, rfl, h, _⟩ := b.isLst s; exact .x (.base (.lst h))
  | tup c => obtain ⟨a, xs, rfl, h, _⟩ := b.isTup s; exact .x (SqT.tyX h)
  | dic c => obtain ⟨a, xs, rfl, h, _⟩ := b.isDic s; exact h.elim (fun h => .x (.base (.dK h))) fun ⟨_, h⟩ => .x (.fDict h)
  | scr c => obtain ⟨a, rfl, h⟩ := b.isScr s; exact .x (SqL.tyX h)
  | hup c => obtain ⟨a, xs, rfl, h, _⟩ := (show Bw K F H x (.tup c) from b.wk).isTup s; exact .x (SqT.tyX h)
  | gup c => obtain ⟨a, xs, rfl, h, _⟩ := (show Bw K F H x (.tup c) from b.wk).isTup s; exact .x (SqT.tyX h)
theorem sim_isi {T : String} {ta : TE} {ma : ME} (ha : SimE K ta ma) : SimE K (tCB (rIsiY K) (tCons ta (tCons (tC (.ty T)) tNil))) (unM (isiD T) ma) := ⟨fun {F0 Gd ios F H σ e os l e' Q} W hm q => by
  unfold unM at hm
  obtain ⟨⟨l1, e1⟩, h1, hm⟩ := Option.bind_eq_some_iff.mp hm
  obtain ⟨a, ra, hm⟩ := Option.bind_eq_some_iff.mp hm
  obtain ⟨d, hd, hm⟩ := Option.map_eq_some_iff.mp hm
  cases hm
  unfold isiD at hd
  split at hd
  · cases hd
  rename_i no
  obtain ⟨b, hb, rfl⟩ := Option.map_eq_some_iff.mp hd
  exact ha.run W h1 fun F1 H1 os1 x W1 s1 k1 => ⟨x, .ty T, _, .type T, b, rfl, .ty T, (W1.bw k1 ra).tyX W1.fh no, kit_ty hb, q F1 H1 os1 _ W1 s1 (Rp.bl b)⟩⟩
def keyD : D → Option Key
  | .int i => some (.inl i)
  | .str x => some (.inr x)
  | _ => none
def flD : D → Option V
  | .non => some .non
  | .bl b => some (.bl b)
  | .int i => some (.int i)
  | .str x => some (.str x)
  | _ => none
def flsD : List D → Option (List V)
  | [] => some []
  | d :: r => (flD d).bind fun a => (flsD r).map fun b => a :: b
theorem flD_bw {F H : Hp} {x v : V} {d : D} (b : Bw K F H x d) (h : flD d = some v) : x = v ∧ flatV v = true := by
  cases d with
  | non => cases h; exact ⟨b.isNon, rfl⟩
  | bl c => cases h; exact ⟨b.isBl, rfl⟩
  | int c => cases h; exact ⟨b.isInt, rfl⟩
  | str c => cases h; exact ⟨b.isStr, rfl⟩
  | _ => cases h
theorem flsD_rp {F : Hp} : ∀ {xs vs : List V} {ds : List D}, RpL K F xs ds → flsD ds = some vs → xs = vs ∧ vs.all flatV = true
  | _, _, _, .nil, h => by cases h; exact ⟨rfl, rfl⟩
  | _, _, _, .cons r1 r2, h => by
    obtain ⟨a, h1, h⟩ := Option.bind_eq_some_iff.mp h
    obtain ⟨b, h2, h⟩ := Option.map_eq_some_iff.mp h
    cases h
    obtain ⟨e1, f1⟩ := flD_bw (H := F) (.inl r1) h1
    obtain ⟨e2, f2⟩ := flsD_rp r2 h2
    subst e1 e2
    exact ⟨rfl, by rw [List.all_cons, f1, f2]; rfl⟩
def inB (x y : Str) : Bool := match x.cps.toList with
  | [c] => decide (c ∈ y.cps.toList)
  | _ => !(Builtin.Str.occurrences y x 0 y.length 1).isEmpty
def valD (es : List (Key × D)) (k : Key) : Option D := (es.find? fun p => decide (p.1 = k)).map (·.2)
def inD (neg : Bool) : D → D → Option D
  | .str x, .str y => some (.bl (xor neg (inB x y)))
  | x, .lst ys => (flD x).bind fun v => (flsD ys).map fun vs => .bl (xor neg (inV v vs))
  | x, .tup ys => (flD x).bind fun v => (flsD ys).map fun vs => .bl (xor neg (inV v vs))
  | x, .dic es => (keyD x).map fun k => .bl (xor neg (valD es k).isSome)
  | _, _ => none
def rInAny (K : PySem.W.Frag) (neg : Bool) : R2 := fun x y H Q => (∃ p xs, y = .ref p ∧ (SqL K H p xs ∨ SqT K H p xs) ∧ flatV x = true ∧ xs.all flatV = true ∧ Q (.bl (xor neg (inV x xs))) H) ∨
  (∃ i j, x = .str i ∧ y = .str j ∧ Q (.bl (xor neg (inB i j))) H) ∨ ∃ a o, y = .ref a ∧ DGet H a x o ∧ Q (.bl (xor neg o.isSome)) H
theorem xor_f (b : Bool) : xor false b = b := by cases b <;> rfl
theorem str_one {x : Str} {c : Nat} (h : x.cps.toList = [c]) : x = ⟨#[c]⟩ := by
  cases x with
  | mk a => cases a with
    | mk l => cases h; rfl
theorem opr_in {X : Cx} (hu : X.A.units + 1 < cLine) : OpR X (compareOp .In) (rInAny X.K false) := by
  intro pins s σ H x y v u Q I rx ry h
  rcases h with ⟨p, xs, e, h1, h2, h3, q⟩ | ⟨i, j, rfl, rfl, q⟩ | ⟨a, o, rfl, g, q⟩
  · refine op_in_seq pins s σ H x y v u Q I rx ry ⟨p, xs, e, h1, h2, h3, ?_⟩
    rw [xor_f] at q; exact q
  · rw [xor_f] at q
    unfold inB at q
    split at q
    · rename_i c hc
      cases str_one hc
      exact op_in_sign pins s σ H _ _ v u Q I rx ry ⟨c, j, rfl, rfl, q⟩
    · exact op_in_str pins s σ H _ _ v u Q I rx ry ⟨i, j, rfl, rfl, q⟩
  · rw [xor_f] at q
    cases ry
    exact d_in hu I g rx fun s' I' => ⟨.bl _, H, I', rfl, q⟩
theorem keyD_bw {F H : Hp} {x : V} {d : D} {k : Key} (b : Bw K F H x d) (h : keyD d = some k) : x = kV k := by
  cases d with
  | int c => cases h; exact b.isInt
  | str c => cases h; exact b.isStr
  | _ => cases h
theorem RpK.val {F : Hp} {k : Key} : ∀ {kvs : List (Key × V)} {es : List (Key × D)}, RpK K F kvs es → (valV kvs k).isSome = (valD es k).isSome ∧ ∀ d, valD es k = some d → ∃ v, valV kvs k = some v ∧ Rp K F v d
  | _, _, .nil => ⟨rfl, fun d h => nomatch h⟩
  | _, _, .cons (k := j) (v := v) (vs := vs) (d := d) (ds := ds) h r => by
    obtain ⟨h1, h2⟩ := RpK.val (k := k) r
    unfold valV valD at h1 h2 ⊢
    by_cases e : j = k
    · rw [List.find?_cons_of_pos (by exact decide_eq_true e), List.find?_cons_of_pos (by exact decide_eq_true e)]
      exact ⟨rfl, fun d hd => by cases hd; exact ⟨v, rfl, h⟩⟩
    · rw [List.find?_cons_of_neg (by simpa using e), List.find?_cons_of_neg (by simpa using e)]
      exact ⟨h1, h2⟩
theorem op2_in (neg : Bool) : Op2 K (rInAny K neg) (inD neg) := fun {F H x y dx dy d Q} s bx bY hd q => by
  have seq : ∀ ys : List D, (dy = .lst ys ∨ dy = .tup ys) → ((flD dx).bind fun v => (flsD ys).map fun vs => D.bl (xor neg (inV v vs))) = some d → rInAny K neg x y H Q := by
    intro ys hy h
    obtain ⟨v, h1, h⟩ := Option.bind_eq_some_iff.mp h
    obtain ⟨vs, h2, h⟩ := Option.map_eq_some_iff.mp h
    cases h
    obtain ⟨e1, f1⟩ := flD_bw bx h1
    subst e1
    rcases hy with rfl | rfl
    · obtain ⟨a, xs, rfl, ha, rx⟩ := bY.isLst s
      obtain ⟨e2, f2⟩ := flsD_rp rx h2
      subst e2
      exact .inl ⟨a, xs, rfl, .inl (.inl (.inl ha)), f1, f2, q F H _ (Ext.refl s) (.bl _)⟩
    · obtain ⟨a, xs, rfl, ha, rx, _⟩ := bY.isTup s
      obtain ⟨e2, f2⟩ := flsD_rp rx h2
      subst e2
      exact .inl ⟨a, xs, rfl, .inr ha, f1, f2, q F H _ (Ext.refl s) (.bl _)⟩
  unfold inD at hd
  split at hd
  · cases hd
    cases bx.isStr; cases bY.isStr
    exact .inr (.inl ⟨_, _, rfl, rfl, q F H _ (Ext.refl s) (.bl _)⟩)
  · exact seq _ (.inl rfl) hd
  · exact seq _ (.inr rfl) hd
  · obtain ⟨k, h1, h⟩ := Option.map_eq_some_iff.mp hd
    cases h
    cases keyD_bw bx h1
    obtain ⟨a, xs, rfl, ha, rx⟩ := bY.isDic s
    refine .inr (.inr ⟨a, _, rfl, dgetR ha, ?_⟩)
    rw [(rx.val (k := k)).1]
    exact q F H _ (Ext.refl s) (.bl _)
  · cases hd
def repS (x : Str) (n : Int) : Str := if n < 1 then Str.empty else if (n == 1 || x.length == 0) = true then x else ⟨(List.replicate n.toNat x.cps).foldl (· ++ ·) #[]⟩
def mulS : D → D → Option D
  | .str x, .int n => (okB (decide (-1000000 ≤ n) && decide (n ≤ 1000000) && few (x.length * n.toNat))).map fun _ => .str (repS x n)
  | _, _ => none
def rMulS : R2 := fun x y H Q => ∃ z n, x = .str z ∧ y = .int n ∧ -1000000 ≤ n ∧ n ≤ 1000000 ∧ z.length * n.toNat ≤ 1000000 ∧ Q (.str (repS z n)) H
theorem rep_size (a : Array Nat) : ∀ (n : Nat) (acc : Array Nat), ((List.replicate n a).foldl (· ++ ·) acc).size = acc.size + n * a.size
  | 0, acc => by simp
  | n + 1, acc => by
    rw [List.replicate_succ, List.foldl_cons, rep_size a n, Array.size_append, Nat.succ_mul]
    omega
theorem op_mulS {X : Cx} : OpR X (binaryOp .Mult) rMulS := by
  intro pins s σ H x y v u Q I rx ry h
  obtain ⟨z, n, rfl, rfl, h1, h2, h3, q⟩ := h
  obtain ⟨t, rfl⟩ := rx
  obtain ⟨t2, rfl⟩ := ry
  have hz : ¬ n < 1 → z.length ≤ 1000000 := fun a => by
    have h4 : 1 ≤ n.toNat := by omega
    have h5 : z.length ≤ z.length * n.toNat := Nat.le_mul_of_pos_right _ h4
    omega
  refine PySem.P.mul_str ?_ ?_ ?_ ?_
  · rw [decide_eq_false (by omega), decide_eq_false (by omega)]; rfl
  · intro a b
    have hz := hz a
    have h6 : (1000000 : Int) ≤ (2 ^ 63 - 1) / n := by
      apply Int.le_ediv_of_mul_le (by omega)
      have : 1000000 * n ≤ 1000000 * 1000000 := by omega
      omega
    omega
  · intro a b
    unfold Builtin.Str.tooLong
    exact decide_eq_false (fun hh => absurd (Nat.lt_of_lt_of_le hh h3) (by decide))
  · unfold repS at q
    by_cases hn : n < 1
    · rw [if_pos hn] at q ⊢
      exact ⟨by decide, .str _, H, I.tok _, ⟨_, rfl⟩, q⟩
    · rw [if_neg hn] at q ⊢
      by_cases hb : (n == 1 || z.length == 0) = true
      · rw [if_pos hb] at q ⊢
        exact ⟨.str _, H, I, ⟨_, rfl⟩, q⟩
      · rw [if_neg hb] at q ⊢
        refine ⟨?_, .str _, H, I.tok _, ⟨_, rfl⟩, q⟩
        show ((List.replicate n.toNat z.cps).foldl (· ++ ·) #[]).size ≤ sizeLine
        rw [rep_size]
        have : n.toNat * z.cps.size ≤ 1000000 := by rw [Nat.mul_comm]; exact h3
        have h8 : (1000000 : Nat) ≤ sizeLine := by decide
        simp only [List.size_toArray, List.length_nil]
        omega
theorem op2_mulS : Op2 K rMulS mulS := fun {F H x y dx dy d Q} s bx bY hd q => by
  unfold mulS at hd
  split at hd
  · obtain ⟨_, h, hd⟩ := Option.map_eq_some_iff.mp hd
    cases hd
    cases bx.isStr; cases bY.isInt
    have h := Bool.and_eq_true_iff.mp (okB_iff h)
    have h1 := Bool.and_eq_true_iff.mp h.1
    exact ⟨_, _, rfl, rfl, of_decide_eq_true h1.1, of_decide_eq_true h1.2, of_decide_eq_true h.2, q F H _ (Ext.refl s) (.str _)⟩
  · cases hd
abbrev MO := Option ME
structure SimO (K : PySem.W.Frag) (t : TO) (m : MO) : Prop where
  run : ∀ {F0 Gd : Hp} {ios : List (Option Addr)} {F H : Hp} {σ : L2.St} {e : Env} {os : List (Option Addr)} {e' : Env} {o : Option Int} {Q : Option Int → Hp → Prop}, WOk K F0 Gd ios F H σ e os →
    (match m with | none => some (none, e) | some m => (m e).bind fun p => (rd p.2 p.1).bind fun d => (asI d).map fun i => (some i, p.2)) = some (o, e') →
    (∀ F' H' os', WOk K F0 Gd ios F' H' σ e' os' → Sm F F' → Q o H') → t σ H Q
theorem sim_noPart : SimO K tNoPart none := ⟨fun {F0 Gd ios F H σ e os e' o Q} W hm q => by cases hm; exact q F H os W (Sm.refl _)⟩
theorem sim_part {t : TE} {m : ME} (h : SimE K t m) : SimO K (tPart t) (some m) := ⟨fun {F0 Gd ios F H σ e os e' o Q} W hm q => by
  obtain ⟨⟨l1, e1⟩, h1, hm⟩ := Option.bind_eq_some_iff.mp hm
  obtain ⟨a, ra, hm⟩ := Option.bind_eq_some_iff.mp hm
  obtain ⟨i, hi, hm⟩ := Option.map_eq_some_iff.mp hm
  cases hm
  cases asI_iff hi
  exact h.run W h1 fun F1 H1 os1 x W1 s1 k1 => ⟨i, (W1.bw k1 ra).isInt, q F1 H1 os1 W1 s1⟩⟩
def optM (m : MO) : Env → Option (Option Int × Env) := fun e => match m with
  | none => some (none, e)
  | some m => (m e).bind fun p => (rd p.2 p.1).bind fun d => (asI d).map fun i => (some i, p.2)
def slM (op : D → Option Int → Option Int → Option D) (m : ME) (lo hi : MO) : ME := fun e => (m e).bind fun p => (optM lo p.2).bind fun q => (optM hi q.2).bind fun r => (rd r.2 p.1).bind fun d => (op d q.1 r.1).map fun c => (.v c, r.2)
def cutL {α : Type} (xs : List α) (lo hi : Option Int) : List α := (xs.drop (HT.sIx xs.length 0 lo)).take (HT.sIx xs.length xs.length hi - HT.sIx xs.length 0 lo)
def cutD : D → Option Int → Option Int → Option D
  | .str x, lo, hi => (okB (few x.length)).map fun _ => .str (cutS x lo hi)
  | .lst xs, lo, hi => some (.lst (cutL xs lo hi))
  | .tup xs, lo, hi => some (.tup (cutL xs lo hi))
  | _, _, _ => none
def rSlAny (K : PySem.W.Frag) : V → Option Int → Option Int → Hp → VK → Prop := fun x lo hi H Q => rSlS x lo hi H Q ∨ rSlL K x lo hi H Q ∨ rSlA K x lo hi H Q
theorem slr_any {X : Cx} : SlR X (rSlAny X.K) := sl_str.or (sl_list.or sl_tupA)
theorem RpL.cut {F : Hp} {vs : List V} {ds : List D} (r : RpL K F vs ds) (lo hi : Option Int) : RpL K F (cutV vs lo hi) (cutL ds lo hi) := by
  unfold cutV cutL
  rw [r.length]
  exact (r.drop _).take _
theorem cut_whole {α : Type} (xs : List α) (lo hi : Option Int) (h : HT.sIx xs.length 0 lo = 0 ∧ HT.sIx xs.length xs.length hi = xs.length) : cutL xs lo hi = xs := by
  unfold cutL
  rw [h.1, h.2]
  simp
theorem sim_sl {te : TE} {tl th : TO} {m : ME} {lo hi : MO} (h : SimE K te m) (hl : SimO K tl lo) (hh : SimO K th hi) : SimE K (tSl (rSlAny K) te tl th) (slM cutD m lo hi) := ⟨fun {F0 Gd ios F H σ e os l e' Q} W hm q => by
  unfold slM at hm
  obtain ⟨⟨l1, e1⟩, h1, hm⟩ := Option.bind_eq_some_iff.mp hm
  obtain ⟨⟨o2, e2⟩, h2, hm⟩ := Option.bind_eq_some_iff.mp hm
  obtain ⟨⟨o3, e3⟩, h3, hm⟩ := Option.bind_eq_some_iff.mp hm
  obtain ⟨a, ra, hm⟩ := Option.bind_eq_some_iff.mp hm
  obtain ⟨d, hd, hm⟩ := Option.map_eq_some_iff.mp hm
  cases hm
  refine h.run W h1 fun F1 H1 os1 x W1 s1 k1 => hl.run W1 h2 fun F2 H2 os2 W2 s2 => hh.run W2 h3 fun F3 H3 os3 W3 s3 => ?_
  have b := W3.bw ((k1.mono s2).mono s3) ra
  have s4 := (s1.trans s2).trans s3
  unfold cutD at hd
  split at hd
  · obtain ⟨_, hf, hd⟩ := Option.map_eq_some_iff.mp hd
    cases hd
    exact .inl ⟨_, b.isStr, few_ok (okB_iff hf), q F3 H3 os3 _ W3 s4 (Rp.str _)⟩
  · cases hd
    obtain ⟨p, xs, rfl, hp, rx⟩ := b.isLst W3.fh
    refine .inr (.inl ⟨p, xs, rfl, .inl (.inl hp), fun r n => ?_⟩)
    have x := Ext.new (o := .lst (cutV xs o2 o3)) W3.fh n
    exact q _ _ os3 _ (W3.ext x) (s4.trans x.f) (Rp.lst upd_same ((rx.cut _ _).mono x.f))
  · cases hd
    obtain ⟨p, xs, rfl, hp, rx, hf⟩ := b.isTup W3.fh
    refine .inr (.inr ⟨p, xs, rfl, hp, fun w => ?_, fun w r n => ?_⟩)
    · rw [rx.length] at w
      have e := cut_whole _ _ _ w
      refine q F3 H3 os3 _ W3 s4 ?_
      show Rp K F3 _ _
      rw [e]
      exact .tup hf rx
    · have x := Ext.new (o := .tup (cutV xs o2 o3)) W3.fh n
      exact q _ _ os3 _ (W3.ext x) (s4.trans x.f) (Rp.tup (.inl (.inl upd_same)) ((rx.cut _ _).mono x.f))
  · cases hd⟩
theorem LsOk.app {F : Hp} {σ : L2.St} : ∀ {xs ys : List V} {ls ks : List L}, LsOk K F σ xs ls → LsOk K F σ ys ks → LsOk K F σ (xs ++ ys) (ls ++ ks)
  | _, _, _, _, .nil, h => h
  | _, _, _, _, .cons a r, h => .cons a (r.app h)
theorem LsOk.ofRp {F : Hp} {σ : L2.St} : ∀ {xs : List V} {ds : List D}, RpL K F xs ds → LsOk K F σ xs (ds.map L.v)
  | _, _, .nil => .nil
  | _, _, .cons h r => .cons h (LsOk.ofRp r)
end Dk
set_option exponentiation.threshold 256
namespace Dk
open PySem PySem.Spec PyProof.Rows L2
variable [TabP]
variable {K : PySem.W.Frag}
mutual
theorem toPy_noDict : ∀ {d : D} {p : PyData}, toPy d = some p → p.hasDict = false
  | .non, _, h => by cases h; simp [PyData.hasDict]
  | .bl _, _, h => by cases h; simp [PyData.hasDict]
  | .int _, _, h => by cases h; simp [PyData.hasDict]
  | .str _, _, h => by cases h; simp [PyData.hasDict]
  | .lst xs, _, h => by
    obtain ⟨ps, h1, h2⟩ := Option.map_eq_some_iff.mp h
    cases h2
    simp only [PyData.hasDict]
    exact toPyL_noDict h1
  | .tup xs, _, h => by
    obtain ⟨ps, h1, h2⟩ := Option.map_eq_some_iff.mp h
    cases h2
    simp only [PyData.hasDict]
    exact toPyL_noDict h1
  | .gup xs, _, h => by
    obtain ⟨ps, h1, h2⟩ := Option.map_eq_some_iff.mp h
    cases h2
    simp only [PyData.hasDict]
    exact toPyL_noDict h1
  | .hup xs, _, h => by
    obtain ⟨ps, h1, h2⟩ := Option.map_eq_some_iff.mp h
    cases h2
    simp only [PyData.hasDict]
    exact toPyL_noDict h1
  | .dic _, _, h => by cases h
  | .scr _, _, h => by cases h
theorem toPyL_noDict : ∀ {ds : List D} {ps : List PyData}, toPyL ds = some ps → PyData.hasDictAll ps = false
  | [], _, h => by cases h; simp [PyData.hasDictAll]
  | d :: r, _, h => by
    obtain ⟨a, h1, h⟩ := Option.bind_eq_some_iff.mp h
    obtain ⟨b, h2, h⟩ := Option.map_eq_some_iff.mp h
    cases h
    simp only [PyData.hasDictAll, toPy_noDict h1, toPyL_noDict h2, Bool.or_false]
end
def rRepr (K : PySem.W.Frag) : List V → Hp → VK → Prop := fun xs H Q => ∃ x p, xs = [x] ∧ Dp K H x p ∧ p.hasDict = false ∧ p.showable = true ∧ p.shown.length ≤ sizeLine ∧ p.depth ≤ 60 ∧ Q (.str p.shown) H
theorem call_reprD {X : Cx} {k : Nat} (hr : Room k X.A) (hg : X.A.guards = some []) : CallR X (.builtin "repr") (rRepr X.K) := by
  intro pins s σ H xs us Q I r h
  obtain ⟨x, p, rfl, dp, nd, sh, sz, dep, q⟩ := h
  obtain ⟨u, rfl, ru⟩ := vals1 r
  have un := hr.un
  cases dp with
  | non => cases ru; exact PySem.P.repr_of_none ⟨.str _, H, I.tok _, ⟨_, rfl⟩, by rw [PyData.shown] at q; exact q⟩
  | bl b => cases ru; exact PySem.P.repr_of_bool ⟨.str _, H, I.tok _, ⟨_, rfl⟩, by rw [PyData.shown] at q; exact q⟩
  | int i =>
    obtain ⟨t, rfl⟩ := ru
    rw [PyData.showable] at sh
    exact PySem.P.repr_of_int (of_decide_eq_true sh) ⟨.str _, H, I.tok _, ⟨_, rfl⟩, by rw [PyData.shown] at q; exact q⟩
  | str z =>
    obtain ⟨t, rfl⟩ := ru
    rw [PyData.shown] at q sz
    exact PySem.P.repr_of_str ⟨.str _, H, I.tok _, ⟨_, rfl⟩, q⟩ sz
  | lst hs ds =>
    obtain ⟨as, rd⟩ := Dp.reads I _ _ _ (Dp.lst hs ds) ru
    cases ru
    exact repr_of_reads' rd sh (fun h => absurd (nd.symm.trans h) Bool.false_ne_true) hg (by omega) (fun _ _ h => h)
      (fun h' u tk kp => ⟨.str _, H, I.kept kp, ⟨_, rfl⟩, q⟩) sz
  | tup hs ds =>
    obtain ⟨as, rd⟩ := Dp.reads I _ _ _ (Dp.tup hs ds) ru
    cases ru
    exact repr_of_reads' rd sh (fun h => absurd (nd.symm.trans h) Bool.false_ne_true) hg (by omega) (fun _ _ h => h)
      (fun h' u tk kp => ⟨.str _, H, I.kept kp, ⟨_, rfl⟩, q⟩) sz
def reprP (p : PyData) : Option D := (okB (p.showable && decide (p.shown.length ≤ sizeLine) && decide (p.depth ≤ 60))).map fun _ => .str p.shown
def reprD : List D → Option D
  | [d] => (toPy d).bind reprP
  | _ => none
theorem opA_repr : OpA K (rRepr K) reprD := fun {F H xs ds d Q} s b hd q => by
  unfold reprD at hd
  split at hd
  · obtain ⟨p, h1, hd⟩ := Option.bind_eq_some_iff.mp hd
    obtain ⟨_, h2, hd⟩ := Option.map_eq_some_iff.mp hd
    cases hd
    obtain ⟨x, rfl, b1⟩ := b.one
    have h := Bool.and_eq_true_iff.mp (okB_iff h2)
    have h3 := Bool.and_eq_true_iff.mp h.1
    exact ⟨x, p, rfl, b1.dp s h1, toPy_noDict h1, h3.1, of_decide_eq_true h3.2, of_decide_eq_true h.2, q F H _ (Ext.refl s) (.str _)⟩
  · cases hd
def insL {α : Type} (le : α → α → Bool) (x : α) : List α → List α
  | [] => [x]
  | y :: r => if le x y = true then x :: y :: r else y :: insL le x r
def isort {α : Type} (le : α → α → Bool) : List α → List α
  | [] => []
  | x :: r => insL le x (isort le r)
section
variable {α : Type} {le : α → α → Bool}
theorem insL_mem {x z : α} : ∀ {l : List α}, z ∈ insL le x l → z = x ∨ z ∈ l
  | [], h => by
    rcases List.mem_cons.mp h with h | h
    · exact .inl h
    · exact .inr h
  | y :: r, h => by
    unfold insL at h
    split at h
    · rcases List.mem_cons.mp h with h | h
      · exact .inl h
      · exact .inr h
    · rcases List.mem_cons.mp h with h | h
      · exact .inr (by rw [h]; exact List.mem_cons_self)
      · rcases insL_mem h with h | h
        · exact .inl h
        · exact .inr (List.mem_cons_of_mem _ h)
theorem insL_sorted (T : PySem.W.TotalLe le) {x : α} : ∀ {l : List α}, l.Pairwise (fun a b => le a b = true) → (insL le x l).Pairwise (fun a b => le a b = true)
  | [], _ => by
    unfold insL
    exact List.pairwise_singleton _ _
  | y :: r, h => by
    obtain ⟨h1, h2⟩ := List.pairwise_cons.mp h
    unfold insL
    split
    · rename_i hxy
      refine List.pairwise_cons.mpr ⟨fun z hz => ?_, h⟩
      rcases List.mem_cons.mp hz with e | e
      · rw [e]; exact hxy
      · exact T.trans _ _ _ hxy (h1 z e)
    · rename_i hxy
      refine List.pairwise_cons.mpr ⟨fun z hz => ?_, insL_sorted T h2⟩
      rcases insL_mem hz with e | e
      · rw [e]
        have t := T.total x y
        cases q : le x y with
        | true => exact absurd q hxy
        | false => rw [q] at t; simpa using t
      · exact h1 z e
theorem isort_sorted (T : PySem.W.TotalLe le) : ∀ l : List α, (isort le l).Pairwise (fun a b => le a b = true)
  | [] => .nil
  | x :: r => insL_sorted T (isort_sorted T r)
theorem insL_filter (T : PySem.W.TotalLe le) (c x : α) : ∀ {l : List α}, (insL le x l).filter (PySem.W.sameRank le c) = (x :: l).filter (PySem.W.sameRank le c)
  | [] => rfl
  | y :: r => by
    unfold insL
    split
    · rfl
    · rename_i hxy
      rw [List.filter_cons, insL_filter T c x]
      by_cases hx : PySem.W.sameRank le c x = true
      · by_cases hy : PySem.W.sameRank le c y = true
        · exfalso
          unfold PySem.W.sameRank at hx hy
          have a := Bool.and_eq_true_iff.mp hx
          have b := Bool.and_eq_true_iff.mp hy
          exact hxy (T.trans _ _ _ a.2 b.1)
        · rw [if_neg hy, List.filter_cons_of_pos hx, List.filter_cons_of_pos hx, List.filter_cons_of_neg hy]
      · by_cases hy : PySem.W.sameRank le c y = true
        · rw [if_pos hy, List.filter_cons_of_neg hx, List.filter_cons_of_neg hx, List.filter_cons_of_pos hy]
        · rw [if_neg hy, List.filter_cons_of_neg hx, List.filter_cons_of_neg hx, List.filter_cons_of_neg hy]
theorem isort_filter (T : PySem.W.TotalLe le) (c : α) : ∀ l : List α, (isort le l).filter (PySem.W.sameRank le c) = l.filter (PySem.W.sameRank le c)
  | [] => rfl
  | x :: r => by
    show (insL le x (isort le r)).filter _ = _
    rw [insL_filter T c x, List.filter_cons, List.filter_cons, isort_filter T c r]
theorem isort_eq (T : PySem.W.TotalLe le) (l : List α) : isort le l = l.mergeSort le := PySem.W.sort_unique T (isort_sorted T l) (fun c => isort_filter T c l)
end
def encD (d : D) : PyData := (toPy d).getD .none
def leDt : D → D → Bool := PySem.W.dataLe false encD
def pyOk (d : D) : Bool := (toPy d).isSome
/-- all tuples with an item, or none a tuple or None -/
def sortableD (ds : List D) : Bool := ds.all (fun d => match d with | .tup (_ :: _) => true | .hup (_ :: _) => true | _ => false) || ds.all (fun d => match d with | .tup _ => false | .gup _ => false | .hup _ => false | .non => false | _ => true)
def sortedL (ds : List D) : Option (List D) := (okB (ds.all pyOk && ds.all (fun d => ds.all fun c => PySem.W.alike (encD d) (encD c)) && sortableD ds && ds.all (fun d => decide ((encD d).depth ≤ 60)) && few ds.length)).map fun _ => isort leDt ds
def sortedD : List D → Option D
  | [.lst ds] => (sortedL ds).map .lst
  | _ => none
def rSorted (K : PySem.W.Frag) : List V → Hp → VK → Prop := fun xs H Q => ∃ (a : Addr) (bs : List (V × D)), xs = [.ref a] ∧ H a = some (.lst (bs.map (·.1))) ∧ (∀ b ∈ bs, Dp K H b.1 (encD b.2)) ∧ PySem.W.AllAlike (bs.map fun b => encD b.2) ∧
  PySem.W.Sortable (bs.map fun b => encD b.2) ∧ (∀ b ∈ bs, (encD b.2).depth ≤ 60) ∧ ∀ p, H p = none → Q (.ref p) (upd H p (.lst ((bs.mergeSort (PySem.W.dataLe false fun b => encD b.2)).map (·.1))))
theorem each_of_rel : ∀ {bs : List (V × D)} {us : List Value}, Vals (bs.map (·.1)) us → PySem.W.EachIs (fun v b => RelV b.1 v) us bs
  | [], _, h => by
    have h' : Vals [] _ := h
    cases h'; exact .nil
  | b :: bs, _, h => by
    have h' : Vals (b.1 :: bs.map (·.1)) _ := h
    cases h' with
    | cons r t => exact .cons r (each_of_rel t)
theorem rel_of_each : ∀ {bs : List (V × D)} {us : List Value}, PySem.W.EachIs (fun v b => RelV b.1 v) us bs → Vals (bs.map (·.1)) us
  | _, _, .nil => .nil
  | _, _, .cons r t => .cons r (rel_of_each t)
theorem each_reads {X : Cx} {pins : List (Addr × Obj)} {σ : L2.St} {H : Hp} {s : Shared} (I : Inv X pins σ H s) : ∀ {bs : List (V × D)} {us : List Value}, PySem.W.EachIs (fun v b => RelV b.1 v) us bs → (∀ b ∈ bs, Dp X.K H b.1 (encD b.2)) → PySem.W.EachIs (fun v b => ∃ as, Reads s.heap v (encD b.2) as) us bs
  | _, _, .nil, _ => .nil
  | _, _, .cons r t, h => .cons (Dp.reads I _ _ _ (h _ List.mem_cons_self) r) (each_reads I t fun b hb => h b (List.mem_cons_of_mem _ hb))
theorem call_sortedD {X : Cx} {k : Nat} (hr : Room k X.A) : CallR X (.builtin "sorted") (rSorted X.K) := by
  intro pins s σ H xs us Q I r h
  obtain ⟨a, bs, rfl, ha, hd, al, so, dep, q⟩ := h
  obtain ⟨its, rv, hl, hz⟩ := I.list (.inl (.inl ha))
  rw [Vals.ref1 r]
  have un := hr.un
  have e1 := each_of_rel rv
  have hz' : bs.length ≤ sizeLine := by rw [List.length_map] at hz; exact hz
  refine PySem.W.sorted_data (R := fun v b => RelV b.1 v) (enc := fun b => encD b.2) hl.isList e1 (each_reads I e1 hd) al so hz' (fun b hb => ?_) fun out ho eo => ?_
  · have := dep b hb; omega
  obtain ⟨ep, he'⟩ := PyProof.Rows.sortedAll_at s.heap its out.toArray
  have hlen : ((bs.mergeSort (PySem.W.dataLe false fun b => encD b.2)).map (·.1)).length ≤ sizeLine := by
    rw [List.length_map, List.length_mergeSort]; exact hz'
  exact ⟨.ref _, upd H (s.heap.objs.size + 1) (.lst ((bs.mergeSort (PySem.W.dataLe false fun b => encD b.2)).map (·.1))),
    I.laid (t' := s.toks) (fun _ _ => PyProof.Rows.sortedAll_old) (Nat.le_succ _) ⟨hlen, out, ep, rel_of_each eo, he'⟩, rfl, q _ (I.hok.fresh (Nat.le_succ _))⟩
theorem RpL.zip {F : Hp} : ∀ {xs : List V} {ds : List D}, RpL K F xs ds → ∃ bs : List (V × D), bs.map (·.1) = xs ∧ bs.map (·.2) = ds ∧ ∀ b ∈ bs, Rp K F b.1 b.2
  | _, _, .nil => ⟨[], rfl, rfl, fun b h => by cases h⟩
  | _, _, .cons (v := v) (d := d) h r => by
    obtain ⟨bs, e1, e2, hb⟩ := RpL.zip r
    refine ⟨(v, d) :: bs, by rw [List.map_cons, e1], by rw [List.map_cons, e2], fun b hm => ?_⟩
    rcases List.mem_cons.mp hm with e | e
    · rw [e]; exact h
    · exact hb b e
theorem RpL.unzip {F : Hp} : ∀ {bs : List (V × D)}, (∀ b ∈ bs, Rp K F b.1 b.2) → RpL K F (bs.map (·.1)) (bs.map (·.2))
  | [], _ => .nil
  | b :: bs, h => .cons (h b List.mem_cons_self) (RpL.unzip fun c hc => h c (List.mem_cons_of_mem _ hc))
theorem sortableD_ok {ds : List D} (hp : ds.all pyOk = true) (h : sortableD ds = true) : PySem.W.Sortable (ds.map encD) := by
  unfold sortableD at h
  rcases Bool.or_eq_true_iff.mp h with h | h
  · refine .inl fun p hm => ?_
    obtain ⟨d, hd, rfl⟩ := List.mem_map.mp hm
    have z := List.all_eq_true.mp h d hd
    have y := List.all_eq_true.mp hp d hd
    cases d with
    | tup xs =>
      cases xs with
      | nil => cases z
      | cons x r =>
        obtain ⟨p, hq⟩ := Option.isSome_iff_exists.mp y
        unfold encD
        rw [hq]
        obtain ⟨ps, h1, h2⟩ := Option.map_eq_some_iff.mp hq
        obtain ⟨a, h3, h4⟩ := Option.bind_eq_some_iff.mp h1
        obtain ⟨b, h5, h6⟩ := Option.map_eq_some_iff.mp h4
        cases h6; cases h2
        exact ⟨a, b, rfl⟩
    | hup xs =>
      cases xs with
      | nil => cases z
      | cons x r =>
        obtain ⟨p, hq⟩ := Option.isSome_iff_exists.mp y
        unfold encD
        rw [hq]
        obtain ⟨ps, h1, h2⟩ := Option.map_eq_some_iff.mp hq
        obtain ⟨a, h3, h4⟩ := Option.bind_eq_some_iff.mp h1
        obtain ⟨b, h5, h6⟩ := Option.map_eq_some_iff.mp h4
        cases h6; cases h2
        exact ⟨a, b, rfl⟩
    | _ => cases z
  · refine .inr fun p hm => ?_
    obtain ⟨d, hd, rfl⟩ := List.mem_map.mp hm
    have z := List.all_eq_true.mp h d hd
    have y := List.all_eq_true.mp hp d hd
    obtain ⟨p, hq⟩ := Option.isSome_iff_exists.mp y
    unfold encD
    rw [hq]
    show p ≠ .none ∧ ∀ xs, p ≠ .tuple xs
    cases d with
    | non => cases z
    | tup _ => cases z
    | gup _ => cases z
    | hup _ => cases z
    | bl b => cases hq; exact ⟨fun e => (nomatch e), fun _ e => (nomatch e)⟩
    | int b => cases hq; exact ⟨fun e => (nomatch e), fun _ e => (nomatch e)⟩
    | str b => cases hq; exact ⟨fun e => (nomatch e), fun _ e => (nomatch e)⟩
    | lst b =>
      obtain ⟨ps, h1, h2⟩ := Option.map_eq_some_iff.mp hq
      cases h2; exact ⟨fun e => (nomatch e), fun _ e => (nomatch e)⟩
    | dic b => cases hq
    | scr b => cases hq
    | dit b => cases hq
    | obj n b => cases hq
    | cls n => cases hq
theorem leDt_total : PySem.W.TotalLe leDt := PySem.W.sortLe_total (PyProof.Rows.listOrd PyProof.Rows.itemOrd) false fun d => PySem.W.keyToks (encD d)
theorem opAN_sorted : OpAN K (rSorted K) sortedD := fun {F H xs ds d Q} s b hd q => by
  unfold sortedD at hd
  split at hd
  · rename_i es
    obtain ⟨r, h1, hd⟩ := Option.map_eq_some_iff.mp hd
    cases hd
    obtain ⟨_, h2, h3⟩ := Option.map_eq_some_iff.mp h1
    subst h3
    have h := okB_iff h2
    simp only [Bool.and_eq_true] at h
    obtain ⟨⟨⟨⟨hp, hal⟩, hso⟩, hdep⟩, hfew⟩ := h
    obtain ⟨x, rfl, b1⟩ := b.one
    obtain ⟨a, xs, rfl, ha, rx⟩ := b1.isLst s
    obtain ⟨bs, e1, e2, hb⟩ := rx.zip
    have em : bs.map (fun b => encD b.2) = es.map encD := by rw [← e2, List.map_map]; rfl
    have mem : ∀ b ∈ bs, b.2 ∈ es := fun b hm => by rw [← e2]; exact List.mem_map.mpr ⟨b, hm, rfl⟩
    subst e1
    refine ⟨a, bs, rfl, ha, fun b hm => ?_, ?_, ?_, fun b hm => ?_, fun p n => ?_⟩
    · obtain ⟨y, hy⟩ := Option.isSome_iff_exists.mp (List.all_eq_true.mp hp b.2 (mem b hm))
      have := Rp.dp s (hb b hm) hy
      unfold encD
      rw [hy]
      exact this
    · rw [em]
      intro p hm p' hm'
      obtain ⟨d, hd, rfl⟩ := List.mem_map.mp hm
      obtain ⟨d', hd', rfl⟩ := List.mem_map.mp hm'
      exact List.all_eq_true.mp (List.all_eq_true.mp hal d hd) d' hd'
    · rw [em]; exact sortableD_ok hp hso
    · exact of_decide_eq_true (List.all_eq_true.mp hdep b.2 (mem b hm))
    · have srt : ((bs.mergeSort (PySem.W.dataLe false fun b => encD b.2)).map (·.2)) = isort leDt es := by
        rw [isort_eq (le := leDt) leDt_total, ← e2]
        exact PySem.W.sort_maps (fun b : V × D => b.2) fun _ _ _ _ => rfl
      refine q p _ n ⟨s.free n, _, upd_same, ?_⟩
      rw [← srt]
      exact RpL.unzip fun b hm => hb b ((List.mergeSort_perm _ _).mem_iff.mp hm)
  · cases hd
def addT : D → D → Option D
  | .tup i, .tup j => (okB (few (i.length + j.length))).map fun _ => .tup (i ++ j)
  | _, _ => none
theorem RpL.nil_iff {F : Hp} {xs : List V} {ds : List D} (r : RpL K F xs ds) : xs = [] ↔ ds = [] := by
  cases r with
  | nil => exact ⟨fun _ => rfl, fun _ => rfl⟩
  | cons _ _ => exact ⟨fun h => (nomatch h), fun h => (nomatch h)⟩
theorem op2_addT : Op2 K (rCatA K) addT := fun {F H x y dx dy d Q} s bx bY hd q => by
  unfold addT at hd
  split at hd
  · obtain ⟨_, h, hd⟩ := Option.map_eq_some_iff.mp hd
    cases hd
    obtain ⟨a, xs, rfl, ha, rx, fa⟩ := bx.isTup s
    obtain ⟨b, ys, rfl, hb, ry, fb⟩ := bY.isTup s
    refine ⟨a, b, xs, ys, rfl, rfl, ha, hb, by rw [rx.length, ry.length]; exact few_ok (okB_iff h), fun h0 => ?_, fun h0 h1 => ?_, fun h0 h1 p n => ?_⟩
    · rw [rx.nil_iff.mp h0] at q
      exact q F H _ (Ext.refl s) (.tup fb ry)
    · rw [ry.nil_iff.mp h1, List.append_nil] at q
      exact q F H _ (Ext.refl s) (.tup fa rx)
    · have x := Ext.new (o := .tup (xs ++ ys)) s n
      exact q _ _ _ x (.tup (.inl (.inl upd_same)) ((rx.app ry).mono x.f))
  · cases hd
end Dk
set_option exponentiation.threshold 256
namespace Dk
open PySem PySem.Spec PyProof.Rows L2
variable [TabP]
variable {K : PySem.W.Frag}
def sgV (z : Str) : List V := z.cps.toList.map fun c => V.str ⟨#[c]⟩
inductive Kd where
  | txt (z : Str) | ls (a : Addr) | tp (a : Addr)
def Kd.v : Kd → V
  | .txt z => .str z
  | .ls a => .ref a
  | .tp a => .ref a
def SrcV (K : PySem.W.Frag) (H : Hp) (kd : Kd) (xs : List V) : Prop := match kd with
  | .txt z => xs = sgV z
  | .ls a => SqL K H a xs
  | .tp a => SqT K H a xs
/-- the iterator of a source: the object o that it is at first, its states tn, what it wants of the heap (Src, the objects ext) -/
structure Dr (P : Program) (w : World) (K : PySem.W.Frag) (x : Kd) (xs : List V) (u : Value) where
  o : Obj
  SB : Heap → Prop
  tn : Addr → Nat → Heap → Prop
  Src : Heap → Prop
  ext : List Addr
  begins : Begins u o SB
  begin0 : ∀ it h, h.get? it = some o → tn it 0 h
  draws : ∀ (A : Around) (it : Addr), A.handled = none → it ∉ ext → Draws P w A it (it :: ext) xs.length (fun i v => ∃ y, xs[i]? = some y ∧ RelV y v) (fun i h => tn it i h ∧ Src h)
  obj : ∀ it i h, tn it i h → ∃ ob, h.get? it = some ob ∧ ∀ v, ob.data ≠ .cell v
  keep : ∀ it i h h', tn it i h → (∀ ob, h.get? it = some ob → h'.get? it = some ob) → tn it i h'
  src : ∀ (X : Cx) (pins : List (Addr × Obj)) (σ : L2.St) (H : Hp) (s : Shared), X.prog = P → X.w = w → X.K = K → L2.Inv X pins σ H s → SrcV K H x xs → Src s.heap
theorem draws_ex {P : Program} {w : World} {A : Around} {it : Addr} {fp : List Addr} {n : Nat} {ι : Type} {C : ι → Prop} {Pv : ι → Nat → Value → Prop} {St : ι → Nat → Heap → Prop} (h : ∀ j, C j → Draws P w A it fp n (Pv j) (St j)) :
    Draws P w A it fp n (fun i v => ∃ j, C j ∧ Pv j i v) (fun i h => ∃ j, C j ∧ St j i h) where
  live := fun i hp ⟨j, c, st⟩ => (h j c).live i hp st
  frame := fun i h1 h2 ⟨j, c, st⟩ k => ⟨j, c, (h j c).frame i h1 h2 st k⟩
  item := fun i s Q E hi ⟨j, c, st⟩ hQ => (h j c).item i s Q E hi st fun x h' tk p st' sb => hQ x h' tk ⟨j, c, p⟩ ⟨j, c, st'⟩ sb
  done := fun s Q E ⟨j, c, st⟩ hE => (h j c).done s Q E st hE
theorem draws_mono {P : Program} {w : World} {A : Around} {it : Addr} {fp : List Addr} {n : Nat} {Pv Pv' : Nat → Value → Prop} {St St' : Nat → Heap → Prop} (D : Draws P w A it fp n Pv St) (hp : ∀ i v, Pv i v → Pv' i v) (h1 : ∀ i h, St i h → St' i h) (h2 : ∀ i h, St' i h → St i h) : Draws P w A it fp n Pv' St' where
  live := fun i h st => D.live i h (h2 i h st)
  frame := fun i h h' st k => h1 _ _ (D.frame i h h' (h2 _ _ st) k)
  item := fun i s Q E hi st hQ => D.item i s Q E hi (h2 _ _ st) fun x h' tk p st' sb => hQ x h' tk (hp _ _ p) (h1 _ _ st') sb
  done := fun s Q E st hE => D.done s Q E (h2 _ _ st) hE
theorem vals_at {xs : List V} {items : Array Value} (r : Vals xs items.toList) {i : Nat} {v : Value} (h : items[i]? = some v) : ∃ y, xs[i]? = some y ∧ RelV y v := by
  have hi : i < xs.length := by
    rw [r.length, Array.length_toList]
    exact (Array.getElem?_eq_some_iff.mp h).1
  have hx : xs[i]? = some xs[i] := List.getElem?_eq_getElem hi
  obtain ⟨u, hu, ru⟩ := r.get hx
  rw [Array.getElem?_toList, h] at hu
  cases hu
  exact ⟨_, hx, ru⟩
theorem drOf {X : Cx} {pins : List (Addr × Obj)} {σ : L2.St} {H : Hp} {s : Shared} {x : Kd} {xs : List V} {u : Value} (I : L2.Inv X pins σ H s) (h : SrcV X.K H x xs) (r : RelV x.v u) :
    ∃ D : Dr X.prog X.w X.K x xs u, D.SB s.heap ∧ ∀ b ∈ D.ext, b < s.heap.objs.size := by
  cases x with
  | txt z =>
    have h : xs = sgV z := h
    subst h
    obtain ⟨t, rfl⟩ := r
    refine ⟨⟨_, _, fun it i h => h.IsStrIter it (strIterType z) z t i, fun _ => True, [], begins_text z t, fun it h e => ⟨_, e, rfl, rfl⟩,
      fun A it hh _ => ?_, fun it i h st => ?_, fun it i h h' st k => ?_, fun _ _ _ _ _ _ _ _ _ _ => trivial⟩, trivial, fun b hb => by cases hb⟩
    · have D := Draws.text (prog := X.prog) (w := X.w) hh it z t
      have e : (sgV z).length = z.cps.size := by unfold sgV; rw [List.length_map, Array.length_toList]
      rw [e]
      refine draws_mono D (fun i v ⟨c, t2, hc, hv⟩ => ⟨.str ⟨#[c]⟩, ?_, t2, hv⟩) (fun i h st => ⟨st, trivial⟩) fun i h st => st.1
      unfold sgV
      rw [List.getElem?_map, Array.getElem?_toList, hc]; rfl
    · obtain ⟨ob, e, _, d⟩ := st
      exact ⟨ob, e, fun v q => by rw [d] at q; cases q⟩
    · obtain ⟨ob, e, c, d⟩ := st
      exact ⟨ob, k ob e, c, d⟩
  | ls a =>
    have hs : SqL X.K H a xs := h
    cases r
    obtain ⟨its, rv, pl, _⟩ := I.list hs
    refine ⟨⟨_, _, fun it i h => h.IsListIter it a i, fun h => ∃ items : Array Value, Vals xs items.toList ∧ h.IsList a items, [a], begins_list a its.toArray, fun it h e => ⟨_, e, rfl, rfl⟩,
      fun A it hh hn => ?_, fun it i h st => ?_, fun it i h h' st k => ?_, fun Y pins' σ' H' s' e1 e2 e3 I' q => ?_⟩, pl.isList, fun b hb => ?_⟩
    · have hne : a ≠ it := fun e => hn (by rw [e]; exact List.mem_singleton.mpr rfl)
      have D := draws_ex (P := X.prog) (w := X.w) (A := A) (it := it) (fp := [it, a]) (n := xs.length) (C := fun items : Array Value => Vals xs items.toList) (Pv := fun items i v => items[i]? = some v) (St := fun items i h => h.IsListIter it a i ∧ h.IsList a items)
        (fun items r => by
          have e : xs.length = items.size := by rw [r.length, Array.length_toList]
          rw [e]; exact Draws.list hh it a hne items)
      exact draws_mono D (fun i v ⟨items, r, hv⟩ => vals_at r hv) (fun i h ⟨items, r, h1, h2⟩ => ⟨h1, items, r, h2⟩) fun i h ⟨h1, items, r, h2⟩ => ⟨items, r, h1, h2⟩
    · obtain ⟨ob, e, _, d⟩ := st
      exact ⟨ob, e, fun v q => by rw [d] at q; cases q⟩
    · obtain ⟨ob, e, c, d⟩ := st
      exact ⟨ob, k ob e, c, d⟩
    · have q : SqL X.K H' a xs := q
      rw [← e3] at q
      obtain ⟨its', rv', pl', _⟩ := I'.list q
      exact ⟨its'.toArray, by simpa using rv', pl'.isList⟩
    · rw [List.mem_singleton.mp hb]
      obtain ⟨ob, n, e, _⟩ := pl
      exact Heap.lt_size e
  | tp a =>
    have hs : SqT X.K H a xs := h
    cases r
    obtain ⟨its, rv, pl, _⟩ := I.tuple hs
    refine ⟨⟨_, _, fun it i h => h.IsTupleIter it a i, fun h => ∃ items : Array Value, Vals xs items.toList ∧ h.IsTuple a items, [a], begins_tuple a its.toArray, fun it h e => ⟨_, e, rfl, rfl⟩,
      fun A it hh hn => ?_, fun it i h st => ?_, fun it i h h' st k => ?_, fun Y pins' σ' H' s' e1 e2 e3 I' q => ?_⟩, pl, fun b hb => ?_⟩
    · have hne : a ≠ it := fun e => hn (by rw [e]; exact List.mem_singleton.mpr rfl)
      have D := draws_ex (P := X.prog) (w := X.w) (A := A) (it := it) (fp := [it, a]) (n := xs.length) (C := fun items : Array Value => Vals xs items.toList) (Pv := fun items i v => items[i]? = some v) (St := fun items i h => h.IsTupleIter it a i ∧ h.IsTuple a items)
        (fun items r => by
          have e : xs.length = items.size := by rw [r.length, Array.length_toList]
          rw [e]; exact Draws.tuple hh it a hne items)
      exact draws_mono D (fun i v ⟨items, r, hv⟩ => vals_at r hv) (fun i h ⟨items, r, h1, h2⟩ => ⟨h1, items, r, h2⟩) fun i h ⟨h1, items, r, h2⟩ => ⟨items, r, h1, h2⟩
    · obtain ⟨ob, e, _, d⟩ := st
      exact ⟨ob, e, fun v q => by rw [d] at q; cases q⟩
    · obtain ⟨ob, e, c, d⟩ := st
      exact ⟨ob, k ob e, c, d⟩
    · have q : SqT X.K H' a xs := q
      rw [← e3] at q
      obtain ⟨its', rv', pl', _⟩ := I'.tuple q
      exact ⟨its'.toArray, by simpa using rv', pl'⟩
    · rw [List.mem_singleton.mp hb]
      obtain ⟨ob, e, _⟩ := pl
      exact Heap.lt_size e
/-- an iterator of new tuples; G: what the sources want of the abstract heap -/
def ItN (n : Nat) (its : Nat → List V) (G : Hp → Prop) : It := ⟨fun i H => i < n ∧ G H, fun i H x H' => ∃ T, x = .ref T ∧ H T = none ∧ H' = upd H T (.tup (its i)), fun i H => i = n ∧ G H⟩
theorem turn_new {P : Program} {w : World} {tg : Expr} {I : Addr} {fp wr ow : List Addr} {n : Nat} {its : Nat → List V} {G : Hp → Prop} {tn : Nat → Heap → Prop} {Src : Heap → Prop}
    (W : ∀ A : Around, A.handled = none → GoesN P w A tg I fp wr n (fun i h0 v h => ∃ T vals, v = .ref T ∧ h0.objs.size ≤ T ∧ Vals (its i) vals.toList ∧ h.IsTuple T vals) (fun i h => tn i h ∧ Src h))
    (src : ∀ (X : Cx) (pins : List (Addr × Obj)) (σ : L2.St) (H : Hp) (s : Shared), X.prog = P → X.w = w → X.K = K → L2.Inv X pins σ H s → G H → Src s.heap) (hw : ∀ b ∈ wr, b ∈ ow) (hI : I ∈ ow)
    (obj : ∀ i h, tn i h → ∀ b ∈ ow, ∃ o, h.get? b = some o ∧ ∀ v, o.data ≠ .cell v) (keep : ∀ i h h', tn i h → (∀ b ∈ ow, ∀ o, h.get? b = some o → h'.get? b = some o) → tn i h') (sm : ∀ i, (its i).length ≤ sizeLine)
    (slf : ∀ (A : Around) (i : Nat) (s : Shared) (Q : Value → Shared → Prop) (E : Value → Shared → Prop), tn i s.heap → Q (.ref I) s → wpAny (model P w) A (pyIter (.ref I)) Q E s) :
    Turn P w K tg (ItN n its G) ow I tn where
  mem := hI
  obj := obj
  keep := keep
  item := by
    intro X hP hW hK hc i pins s σ H E Iv hf st hg
    obtain ⟨hi, g⟩ := hg
    subst hP hW
    have hh := Iv.ok.hd hc
    have sr := src X pins σ H s rfl rfl hK Iv g
    refine (W X.A hh).goes i s (fun v s2 => ∃ x H', L2.Inv X pins σ H' s2 ∧ RelV x v ∧ (ItN n its G).yld i H x H' ∧ tn (i + 1) s2.heap ∧ ∀ b ∈ ow, H' b = none) E hi ⟨st, sr⟩ ?_
    rintro v h' tk ⟨T, vals, rfl, hT, rv, ht⟩ st' hk _
    have new : ObjOk X.prog X.w (upd H T (.tup (its i))) h' T (.tup (its i)) := ⟨sm i, vals.toList, rv, by
      obtain ⟨o, e, c, m, d⟩ := ht
      exact ⟨o, e, c, m, by simpa using d⟩⟩
    have I1 : L2.Inv X pins σ (upd H T (.tup (its i))) { s with heap := h', toks := tk } := Iv.turnedNew (ch := ow) (fun b o hb q => hk b o (fun z => hb (hw b z)) q) hf hT new
    refine ⟨.ref T, _, I1, rfl, ⟨T, rfl, Iv.hok.fresh hT, rfl⟩, st'.1, fun b hb => ?_⟩
    obtain ⟨o, e, _⟩ := obj i s.heap st b hb
    rw [upd_ne (Nat.ne_of_lt (Nat.lt_of_lt_of_le (Heap.lt_size e) hT))]
    exact (hf b hb).1
  done := by
    intro X hP hW hK hc i pins s σ H E Iv hf st hg
    obtain ⟨hi, g⟩ := hg
    subst hP hW
    have hh := Iv.ok.hd hc
    have sr := src X pins σ H s rfl rfl hK Iv g
    exact (W X.A hh).stops s (fun s1 => L2.Inv X pins σ H s1) E ⟨by rw [← hi]; exact st, sr⟩ fun h' tk hk _ => Iv.turnedL (ch := ow) (fun b o hb q => hk b o (fun z => hb (hw b z)) q) hf
  self := slf
theorem goesN_iff {P : Program} {w : World} {A : Around} {tg : Expr} {I : Addr} {fp wr : List Addr} {n : Nat} {Y Y' : Nat → Heap → Value → Heap → Prop} {St St' : Nat → Heap → Prop} (W : GoesN P w A tg I fp wr n Y St) (hy : ∀ i h0 v h, Y i h0 v h → Y' i h0 v h) (h1 : ∀ i h, St i h → St' i h) (h2 : ∀ i h, St' i h → St i h) :
    GoesN P w A tg I fp wr n Y' St' where
  sub := W.sub
  frame := fun i h h' st k => h1 _ _ (W.frame i h h' (h2 _ _ st) k)
  goes := fun i s Q E hi st hQ => W.goes i s Q E hi (h2 _ _ st) fun v h' tk y st' hk ht => hQ v h' tk (hy _ _ _ _ y) (h1 _ _ st') hk ht
  stops := fun s Q E st hQ => W.stops s Q E (h2 _ _ st) hQ
  self := fun i s Q E st h => W.self i s Q E (h2 _ _ st) h
def iZipD (K : PySem.W.Frag) (ta : TA) : TI := fun σ H R => ta σ H fun vs H1 => ∃ x y xs ys, vs = [x.v, y.v] ∧ SrcV K H1 x xs ∧ SrcV K H1 y ys ∧
  R (ItN (min xs.length ys.length) (fun i => [(xs[i]?).getD .non, (ys[i]?).getD .non]) fun H => SrcV K H x xs ∧ SrcV K H y ys) H1
theorem pi_zipD {X : Cx} {e e2 : Expr} {ta : TA} {p pos tpos : Pos} {elts : List Expr} {kk : Nat} (hg : Gl X "zip") (hm : X.mg "zip" = none) (ha : PA X [e, e2] ta)
    (hs : starEach [e, e2] X.env = (false, eval e X.env) :: starEach [e2] X.env := by rfl) (hpl : (backTo pos (starEach [e2] X.env)).any (·.1) = false := by rfl) :
    PI X (.Tuple elts kk tpos) (.Call (.Name "zip" p) [e, e2] [] pos) (iZipD X.K ta) := by
  refine ⟨fun pins s σ H R I h => ?_⟩
  refine Call_ (ld_blt I hg hm PyProof.Rows.boot_zip (PyProof.Rows.callWith_type1 (thn (ha.run pos pins s σ H _ I h) ?_) hs hpl))
  rintro us s1 ⟨vs, H1, I1, r1, x, y, xs, ys, rfl, s1x, s1y, q⟩
  obtain ⟨u, v, rfl, ru, rv⟩ := r1.two
  obtain ⟨D1, b1, e1⟩ := drOf I1 s1x ru
  obtain ⟨D2, b2, e2⟩ := drOf I1 s1y rv
  refine zip_begins2 D1.begins D2.begins b1 b2 ?_
  intro h' hz hTI hTO h1 h2 hsz hk
  generalize eN : s1.heap.objs.size = N at *
  have S := zip_sep2 (N := N) e1 e2
  have n1 : N ∉ D1.ext := fun z => absurd (e1 _ z) (Nat.lt_irrefl _)
  have n2 : N + 1 ∉ D2.ext := fun z => absurd (e2 _ z) (Nat.not_lt.mpr (Nat.le_succ N))
  have I2 : L2.Inv X pins σ H1 { s1 with heap := h' } := I1.kept hk
  refine wpAny_pyIter_zip hz ?_
  let tn : Nat → Heap → Prop := fun i h => IsZip h (N + 4) (N + 2) (N + 3) .none ∧ IsTupOf2 h (N + 2) (.ref N) (.ref (N + 1)) ∧ (∃ a1 a2, IsTupOf2 h (N + 3) a1 a2) ∧ D1.tn N i h ∧ D2.tn (N + 1) i h
  have T : Turn X.prog X.w X.K (.Tuple elts kk tpos) (ItN (min xs.length ys.length) (fun i => [(xs[i]?).getD .non, (ys[i]?).getD .non]) fun H => SrcV X.K H x xs ∧ SrcV X.K H y ys) [N + 4, N + 2, N + 3, N, N + 1] (N + 4) tn := by
    refine turn_new (Src := fun h => D1.Src h ∧ D2.Src h) (fun A hh => goesN_iff (GoesN.zip2 S (D1.draws A.in1 N hh n1) (D2.draws A.in1 (N + 1) hh n2)) ?_ ?_ ?_) ?_ ?_ ?_ ?_ ?_ ?_ ?_
    · rintro i h0 v h ⟨T, a, b, rfl, hT, ⟨ya, ha, ra⟩, ⟨yb, hb, rb⟩, ht⟩
      refine ⟨T, #[a, b], rfl, hT, ?_, ht⟩
      rw [ha, hb]
      exact .cons ra (.cons rb .nil)
    · rintro i h ⟨a1, a2, a3, ⟨a4, a5⟩, a6, a7⟩
      exact ⟨⟨a1, a2, a3, a4, a6⟩, a5, a7⟩
    · rintro i h ⟨⟨a1, a2, a3, a4, a6⟩, a5, a7⟩
      exact ⟨a1, a2, a3, ⟨a4, a5⟩, a6, a7⟩
    · rintro Y pins' σ' H' s' w1 w2 w3 I' ⟨g1, g2⟩
      exact ⟨D1.src Y pins' σ' H' s' w1 w2 w3 I' g1, D2.src Y pins' σ' H' s' w1 w2 w3 I' g2⟩
    · intro b hb
      simp only [List.mem_cons, List.not_mem_nil, or_false] at hb ⊢
      rcases hb with z | z | z | z <;> simp [z]
    · exact List.mem_cons_self
    · rintro i h ⟨a1, a2, ⟨c1, c2, a3⟩, a4, a6⟩ b hb
      simp only [List.mem_cons, List.not_mem_nil, or_false] at hb
      rcases hb with z | z | z | z | z
      · rw [z]; exact ⟨_, a1, fun v q => nomatch q⟩
      · rw [z]; exact ⟨_, a2, fun v q => nomatch q⟩
      · rw [z]; exact ⟨_, a3, fun v q => nomatch q⟩
      · rw [z]; exact D1.obj _ _ _ a4
      · rw [z]; exact D2.obj _ _ _ a6
    · rintro i h h' ⟨a1, a2, ⟨c1, c2, a3⟩, a4, a6⟩ k
      exact ⟨k _ (by simp) _ a1, k _ (by simp) _ a2, ⟨c1, c2, k _ (by simp) _ a3⟩, D1.keep _ _ _ _ a4 fun o e => k _ (by simp) o e, D2.keep _ _ _ _ a6 fun o e => k _ (by simp) o e⟩
    · intro i; show 2 ≤ sizeLine; decide
    · intro A i s Q E st hq
      exact wpAny_pyIter_zip st.1 hq
  refine ⟨N + 4, [N + 4, N + 2, N + 3, N, N + 1], tn, _, H1, rfl, I2, T, ⟨hz, hTI, ⟨_, _, hTO⟩, D1.begin0 _ _ h1, D2.begin0 _ _ h2⟩, fun c hc => ?_, q⟩
  have hle : s1.heap.objs.size ≤ c := by
    rw [eN]
    simp only [List.mem_cons, List.not_mem_nil, or_false] at hc
    rcases hc with z | z | z | z | z <;> (rw [z]; omega)
  exact I1.fpOk hle (I1.hok.fresh hle)
def srcD : D → Option (List D)
  | .lst ds => some ds
  | .tup ds => some ds
  | .str x => some (signs x)
  | .gup ds => some ds
  | .hup ds => some ds
  | _ => none
theorem RpL.sg {F : Hp} (z : Str) : RpL K F (sgV z) (signs z) := by
  unfold sgV signs
  generalize z.cps.toList = l
  induction l with
  | nil => exact .nil
  | cons c r ih => exact .cons (.str _) ih
theorem Rp.src {F : Hp} {x : V} {d : D} {ds : List D} (r : Rp K F x d) (h : srcD d = some ds) : ∃ kd xs, x = Kd.v kd ∧ RpL K F xs ds ∧ ∀ H, Sm F H → SrcV K H kd xs := by
  cases r with
  | lst e rl => cases h; exact ⟨.ls _, _, rfl, rl, fun H s => .inl (.inl (s.at e))⟩
  | tup e rl => cases h; exact ⟨.tp _, _, rfl, rl, fun H s => seqT s e⟩
  | hup e rl => cases h; exact ⟨.tp _, _, rfl, rl, fun H s => .inl (.inl (s.at e))⟩
  | gup e _ rl => cases h; exact ⟨.tp _, _, rfl, rl, fun H s => seqT s e⟩
  | str z => cases h; exact ⟨.txt z, _, rfl, RpL.sg z, fun H s => rfl⟩
  | _ => cases h
def zipL (a b : List D) : List D := (a.zip b).map fun p => .tup [p.1, p.2]
theorem zipL_get {a b : List D} {i : Nat} {d : D} (h : (zipL a b)[i]? = some d) : ∃ x y, a[i]? = some x ∧ b[i]? = some y ∧ d = .tup [x, y] := by
  unfold zipL at h
  rw [List.getElem?_map] at h
  obtain ⟨⟨x, y⟩, h1, h2⟩ := Option.map_eq_some_iff.mp h
  rw [List.getElem?_zip_eq_some] at h1
  exact ⟨x, y, h1.1, h1.2, h2.symm⟩
theorem zipL_len (a b : List D) : (zipL a b).length = min a.length b.length := by
  unfold zipL
  rw [List.length_map, List.length_zip]
/-- zip(a, b): both frozen while they are walked -/
def itZ (m : MA) : MI := fun e => (m e).bind fun p => (tks p.2 p.1).bind fun q => match q.1 with
  | [a, b] => (srcD a).bind fun x => (srcD b).map fun y => (zipL x y, q.2)
  | _ => none
theorem it_new {F : Hp} {n : Nat} {its : Nat → List V} {G : Hp → Prop} {ds : List D} (hn : n = ds.length) (hG : ∀ H, Sm F H → G H) (hd : ∀ i d, ds[i]? = some d → ∃ es, d = .tup es ∧ RpL K F (its i) es) : ItOk K F (ItN n its G) ds := fun F' H i s1 s2 => by
  refine ⟨fun d h => ?_, fun h => ⟨h.trans hn.symm, hG H (s1.trans (.of s2))⟩⟩
  have hi : i < ds.length := (List.getElem?_eq_some_iff.mp h).1
  refine ⟨⟨by rw [hn]; exact hi, hG H (s1.trans (.of s2))⟩, fun x H' hy => ?_⟩
  obtain ⟨T, rfl, hT, rfl⟩ := hy
  obtain ⟨es, rfl, r⟩ := hd i d h
  have x := Ext.new (o := .tup (its i)) s2 hT
  exact ⟨_, x, .tup (.inl (.inl upd_same)) ((r.mono s1).mono x.f)⟩
theorem sim_itZ {t : TA} {m : MA} (h : SimA K t m) : SimI K (iZipD K t) (itZ m) := ⟨fun {F0 Gd ios F H σ e os ds e' R} W hm q => by
  unfold itZ at hm
  obtain ⟨⟨ls, e1⟩, h1, hm⟩ := Option.bind_eq_some_iff.mp hm
  obtain ⟨⟨ds1, e2⟩, h2, hm⟩ := Option.bind_eq_some_iff.mp hm
  refine h.run W h1 fun F1 H1 os1 xs W1 s1 k1 => ?_
  obtain ⟨F2, os2, W2, s2, r⟩ := W1.takes k1 h2
  simp only at hm
  split at hm
  · cases r with
    | cons r1 r => cases r with
      | cons r2 r =>
        cases r
        obtain ⟨x, hx, hm⟩ := Option.bind_eq_some_iff.mp hm
        obtain ⟨y, hy, hm⟩ := Option.map_eq_some_iff.mp hm
        cases hm
        obtain ⟨kx, vx, rfl, rx, gx⟩ := r1.src hx
        obtain ⟨ky, vy, rfl, ry, gy⟩ := r2.src hy
        refine ⟨kx, ky, vx, vy, rfl, gx H1 (.of W2.fh), gy H1 (.of W2.fh), q F2 H1 os2 _ W2 (s1.trans s2) (it_new (by rw [zipL_len, rx.length, ry.length]) (fun H s => ⟨gx H s, gy H s⟩) fun i d hd => ?_)⟩
        obtain ⟨a, b, ha, hb, rfl⟩ := zipL_get hd
        obtain ⟨va, ea, ra⟩ := rx.get ha
        obtain ⟨vb, eb, rb⟩ := ry.get hb
        refine ⟨_, rfl, ?_⟩
        rw [ea, eb]
        exact .cons ra (.cons rb .nil)
  · cases hm⟩
end Dk
set_option exponentiation.threshold 256
namespace Dk
open PySem PySem.Spec PyProof.Rows L2
variable [TabP]
section
variable {X : Cx} {a b c e e2 : Expr} {es : List Expr} {ma mb mc m : ME} {pos : Pos} {k : Nat}
theorem d_isi {x T : Str} {id : String} {p p2 : Pos} (hm : X.mg "isinstance" = none) (hm2 : X.mg x = none) (ha : PE X a (rE X.K ma)) (hT : bootBuiltins x = some (.type id) := by decide +kernel) (hg : Gl X "isinstance" := by rfl) (hg2 : Gl X x := by rfl) (hn : x ≠ "__name__" := by decide) (hdb : (x == ("__debug__" : Str)) = false := by decide)
    (he : starEach [a, .Name x p2] X.env = (false, eval a X.env) :: starEach [.Name x p2] X.env := by rfl) (he2 : starEach [.Name x p2] X.env = (false, eval (.Name x p2) X.env) :: starEach [] X.env := by rfl) (hpl : (backTo pos (starEach [.Name x p2] X.env)).any (·.1) = false := by rfl) :
    PE X (.Call (.Name "isinstance" p) [a, .Name x p2] [] pos) (rE X.K (unM (isiD id) ma)) :=
  toE (pe_callB call_isiY hg hm (by decide +kernel) (pa_cons ha (pa_cons (pe_bltn hg2 hm2 hT (v := .ty id) rfl hn hdb) pa_nil he2) he) (by decide) (by decide) he hpl) (sim_isi sim_rE)
theorem d_in (hr : Room k X.A) (ha : PE X a (rE X.K ma)) (hb : PE X b (rE X.K mb)) (hm : behindInMarks .In b = false := by with_unfolding_all rfl) : PE X (.Compare a [.In] [b] pos) (rE X.K (binM (inD false) ma mb)) := d_cmp (opr_in (by have := hr.units; omega)) (op2_in false) ha hb hm
theorem d_mulS (ha : PE X a (rE X.K ma)) (hb : PE X b (rE X.K mb)) : PE X (.BinOp a .Mult b pos) (rE X.K (binM mulS ma mb)) := d_op op_mulS op2_mulS ha hb
def rO (K : PySem.W.Frag) : MO → TO
  | none => tNoPart
  | some m => tPart (rE K m)
theorem sim_rO : ∀ {m : MO}, SimO X.K (rO X.K m) m
  | none => sim_noPart
  | some m => sim_part sim_rE
theorem o_no : PO X none (rO X.K none) := po_none
theorem o_at (h : PE X e (rE X.K m)) : PO X (some e) (rO X.K (some m)) := po_some h
theorem d_sl {lo hi : Option Expr} {ml mh : MO} {p2 : Pos} (h : PE X e (rE X.K m)) (hl : PO X lo (rO X.K ml)) (hh : PO X hi (rO X.K mh)) : PE X (.Subscript e (.Slice lo hi none p2) pos) (rE X.K (slM cutD m ml mh)) := toE (pe_slice slr_any h hl hh) (sim_sl sim_rE sim_rO sim_rO)
def rGs (K : PySem.W.Frag) (js : List Nat) (m : List D → Env → Option Env) : TGs := fun xs σ H Q => ∃ F0 Gd ios F e os ds e', WOk K F0 Gd ios F H σ e os ∧ RpL K F xs ds ∧ m ds e = some e' ∧ ∀ F' H' σ' os', WOk K F0 Gd ios F' H' σ' e' os' → Sm F F' → But js σ σ' → Q σ' H'
theorem sim_rGs {K : PySem.W.Frag} {js : List Nat} {m : List D → Env → Option Env} : SimGs K (rGs K js m) js m := ⟨fun W r hm q => ⟨_, _, _, _, _, _, _, _, W, r, hm, q⟩⟩
theorem toGs {js : List Nat} {t : TGs} {m : List D → Env → Option Env} (h : PGs X es t) (s : SimGs X.K t js m) : PGs X es (rGs X.K js m) := ⟨fun pins sh σ H x v Q I r ⟨_, _, _, _, _, _, _, _, W, rp, hm, q⟩ => h.run pins sh σ H x v Q I r (s.run W rp hm q)⟩
theorem gs_nil : PGs X [] (rGs X.K [] nilG) := toGs pgs_nil sim_gNil
theorem gs_cons {js ks : List Nat} {g : MG} {r : List D → Env → Option Env} (h1 : PG X e (rG X.K js g)) (h2 : PGs X es (rGs X.K ks r)) (hs : (assignEach (e :: es) X.env).map (·.2) = assign e X.env :: (assignEach es X.env).map (·.2) := by rfl) : PGs X (e :: es) (rGs X.K (js ++ ks) (consG g r)) := toGs (pgs_cons h1 h2 hs) (sim_gCons sim_rG sim_rGs)
theorem g_tup {n : Nat} {js : List Nat} {r : List D → Env → Option Env} {kk : Nat} (hc : X.calm = true) (h : PGs X es (rGs X.K js r)) (hn : (assignEach es X.env).length = n := by rfl) (hst : (assignEach es X.env).findIdx? (·.1) = none := by rfl) : PG X (.Tuple es kk pos) (rG X.K js (tupG n r)) := toG (pg_tup hc h hn hst) (sim_gTup sim_rGs)
theorem d_repr {mr : MA} {p : Pos} (hr : Room k X.A) (hgd : X.A.guards = some []) (hm : X.mg "repr" = none) (ha : PA X (e :: es) (rA X.K mr)) (hg : Gl X "repr" := by rfl) (he : starEach (e :: es) X.env = (false, eval e X.env) :: starEach es X.env := by rfl) (hpl : (backTo pos (starEach es X.env)).any (·.1) = false := by rfl) :
    PE X (.Call (.Name "repr" p) (e :: es) [] pos) (rE X.K (cbM reprD mr)) := d_cb (call_reprD hr hgd) opA_repr hm (by decide +kernel) ha hg (by decide) (by decide) he hpl
theorem d_sorted {mr : MA} {p : Pos} (hr : Room k X.A) (hm : X.mg "sorted" = none) (ha : PA X (e :: es) (rA X.K mr)) (hg : Gl X "sorted" := by rfl) (he : starEach (e :: es) X.env = (false, eval e X.env) :: starEach es X.env := by rfl) (hpl : (backTo pos (starEach es X.env)).any (·.1) = false := by rfl) :
    PE X (.Call (.Name "sorted" p) (e :: es) [] pos) (rN X.K (cbN sortedD mr)) := toN (pe_callB (call_sortedD hr) hg hm (by decide +kernel) ha (by decide) (by decide) he hpl) (sim_cbN opAN_sorted sim_rA)
theorem i_zip {elts : List Expr} {kk : Nat} {p tpos : Pos} {mr : MA} (hm : X.mg "zip" = none) (ha : PA X [e, e2] (rA X.K mr)) (hg : Gl X "zip" := by rfl) (hs : starEach [e, e2] X.env = (false, eval e X.env) :: starEach [e2] X.env := by rfl) (hpl : (backTo pos (starEach [e2] X.env)).any (·.1) = false := by rfl) :
    PI X (.Tuple elts kk tpos) (.Call (.Name "zip" p) [e, e2] [] pos) (rIt X.K (itZ mr)) := toI (pi_zipD hg hm ha hs hpl) (sim_itZ sim_rA)
end
end Dk
set_option exponentiation.threshold 256
namespace Dk
open PySem PySem.Spec PyProof.Rows L2
variable [TabP]
variable {K : PySem.W.Frag}
theorem fnDk {P : Program} {w : World} {mg : Str → Option Value} {base : Heap} {x qual : Str} {pr : Arguments} {body : List Stmt} {scope : Scope} {dvs : List V} {kws : List (Str × V)} {f : Addr} {fd : FuncData} {N ps : List Str} {k a n : Nat} {m : MS} (Fu : FunD K x qual pr body scope dvs kws f fd) (S : FnScope N ps scope) (ha : ps.length = a) (hn : N.length - ps.length = n)
    (hb : ∀ (cdv : Value) (A : Around) (outer : List PySem.Env) (s : Shared) (H : Hp), Room k (A.deeper (envOfC qual scope s.heap.objs.size f cdv)) → (A.deeper (envOfC qual scope s.heap.objs.size f cdv)).guards = some [] →
      PSs (cxOf CX0 P w K mg base N qual scope f cdv A outer s H E0).nox body (rS K m)) : FnD P w K mg base (k + 1) f fd ps (fnM a n m) := by
  obtain ⟨oc, od, dV, kV, doc, pm, an, cdv, ct, osl, rfl, lk, hcd, _, _⟩ := Fu.ex
  refine ⟨fun vs H Q h => (fnM_len h).trans ha.symm, fun A outer s H args us vs Q hr hg e0 bt rv hs => ?_⟩
  have hl : vs.length = ps.length := (fnM_len hs).trans ha.symm
  have inK : K.In s.heap := e0.mod.kin.keeps fun b o h => (e0.bs b o h).1
  have noL : s.heap.NoLimit := e0.mod.nolimit.keeps fun b o h => (e0.bs b o h).1
  have kinds : ∀ y ∈ ps.zip us, scope.names.lookup y.1 = some .local ∨
      (scope.names.lookup y.1 = some .cell ∧ ((cellsFrom (s.heap.objs.size + 1) scope.names []).lookup y.1).isSome = true) := by
    rintro ⟨z, v⟩ hz
    rcases S.par z (List.of_mem_zip hz).1 with h | h
    · exact Or.inl h
    · exact Or.inr ⟨h, PySem.W.cellsFrom_some _ _ _ (Or.inl h)⟩
  refine codeAny_call_function hr.depth (inK _ _ lk) rfl
    S.co S.gen rfl (PySem.W.codeRec_of inK hcd) (bt _ _ _ _ ?_)
  refine wpAny_newFunctionEnv_cells S.kind kinds fun env henv s1 ic => ?_
  subst henv
  refine ⟨noL.keeps ic.toInCall.keep, codeAny_func ?_⟩
  have body := (hb cdv A outer s H (hr.deeper _) hg).nox
  have read := fn_sim (t := rS K m) (N := N) sim_rS (by rw [hl]; exact hn) hs (B := TbK H) tbK_ob
  have I0 := inv_start (CX := CX0) (P := P) (w := w) (mg := mg) (base := base)
    (E := E0) S hr.hd e0 hl rv ic
  refine wpAny_mono (body.run [] s1 _ H _ I0 read)
    (fun fl s' hq => ?_) fun x s' hq => hq
  cases fl with
  | brk =>
    obtain ⟨_, _, _, no⟩ := hq
    exact no.elim
  | cont =>
    obtain ⟨_, _, _, no⟩ := hq
    exact no.elim
  | next =>
    obtain ⟨σ', H', J, hQ⟩ := hq
    exact ⟨V.non, H', J.os, J.bare, J.base, J.hok, rfl, hQ⟩
  | ret u =>
    obtain ⟨v, σ', H', J, rl, hQ⟩ := hq
    exact ⟨v, H', J.os, J.bare, J.base, J.hok, rl, hQ J.base.tbls⟩
/-- how calls of the def bind: all keyword-only ones lack, or all are written -/
structure KwB (K : PySem.W.Frag) (fd : FuncData) (ps : List Str) (n : Nat) (ks : List Str) (dvs : List V) : Prop where
  lack : ∃ ds, Vals dvs ds ∧ Binds K fd ps ds
  full : ∀ (s : Shared) (us ws : List Value), us.length = n → ws.length = ks.length → BindsTo s fd ⟨us, ks.zip ws⟩ (ps.zip (us ++ ws))
  len : ps.length = n + ks.length
/-- arguments, then more -/
def apA (m r : MA) : MA := fun e => (m e).bind fun p => (r p.2).map fun q => (p.1 ++ q.1, q.2)
def tAp (t u : TA) : TA := fun σ H Q => t σ H fun vs H1 => u σ H1 fun zs H2 => Q (vs ++ zs) H2
theorem sim_ap {t u : TA} {m r : MA} (h : SimA K t m) (h2 : SimA K u r) : SimA K (tAp t u) (apA m r) := ⟨fun {F0 Gd ios F H σ e os ls e' Q} W hm q => by
  unfold apA at hm
  obtain ⟨⟨l1, e1⟩, h1, hm⟩ := Option.bind_eq_some_iff.mp hm
  obtain ⟨⟨l2, e2⟩, h3, hm⟩ := Option.map_eq_some_iff.mp hm
  cases hm
  exact h.run W h1 fun F1 H1 os1 xs W1 s1 r1 => h2.run W1 h3 fun F2 H2 os2 ys W2 s2 r2 => q F2 H2 os2 _ W2 (s1.trans s2) ((r1.mono s2).app r2)⟩
def tVs (vs : List V) : TA := fun _ H Q => Q vs H
def csA (ds : List D) : MA := fun e => some (ds.map L.v, e)
theorem sim_vs {vs : List V} {ds : List D} (h : ∀ F : Hp, RpL K F vs ds) : SimA K (tVs vs) (csA ds) := ⟨fun {F0 Gd ios F H σ e os ls e' Q} W hm q => by
  cases hm
  exact q F H os _ W (Sm.refl _) (LsOk.ofRp (h F))⟩
theorem rA_len {m : MA} {n : Nat} (h : ∀ e ls e', m e = some (ls, e') → ls.length = n) {σ : L2.St} {H : Hp} {Q : List V → Hp → Prop} (t : rA K m σ H Q) : rA K m σ H fun vs H1 => vs.length = n ∧ Q vs H1 := by
  obtain ⟨F0, Gd, ios, F, e, os, ls, e', W, hm, q⟩ := t
  refine ⟨F0, Gd, ios, F, e, os, ls, e', W, hm, fun F' H' os' xs W' s' l => ⟨?_, q F' H' os' xs W' s' l⟩⟩
  have hl := h e ls e' hm
  rw [← hl]
  clear hm hl q
  induction l with
  | nil => rfl
  | cons _ _ ih => rw [List.length_cons, List.length_cons, ih]
theorem len_nil {e : Env} {ls : List L} {e' : Env} (h : nilA e = some (ls, e')) : ls.length = 0 := by cases h; rfl
theorem len_cons {m : ME} {r : MA} {n : Nat} (hr : ∀ e ls e', r e = some (ls, e') → ls.length = n) : ∀ e ls e', consA m r e = some (ls, e') → ls.length = n + 1 := fun e ls e' h => by
  unfold consA at h
  obtain ⟨_, _, h⟩ := Option.bind_eq_some_iff.mp h
  obtain ⟨⟨l2, e2⟩, h3, h⟩ := Option.map_eq_some_iff.mp h
  cases h
  rw [List.length_cons, hr _ _ _ h3]
section
variable {X : Cx} {e : Expr} {es : List Expr} {pos : Pos} {k : Nat} {kws : List Keyword}
theorem k_nil : PK X [] (rA X.K nilA) := ⟨fun pos pins sh σ H Q I ⟨_, _, _, _, _, _, _, _, W, hm, q⟩ => pk_nil.run pos pins sh σ H Q I (sim_nil.run W hm q)⟩
theorem k_cons {nm : Option Str} {kpos : Pos} {m : ME} {mr : MA} (h : PE X e (rE X.K m)) (r : PK X kws (rA X.K mr)) : PK X (⟨nm, e, kpos⟩ :: kws) (rA X.K (consA m mr)) := ⟨fun pos pins sh σ H Q I ⟨_, _, _, _, _, _, _, _, W, hm, q⟩ => (pk_cons h r).run pos pins sh σ H Q I ((sim_cons sim_rE sim_rA).run W hm q)⟩
end
end Dk
set_option exponentiation.threshold 256
namespace Dk
open PySem PySem.Spec PyProof.Rows L2
variable [TabP]
variable {K : PySem.W.Frag}
/-- either of two -/
def orR (r s : R2) : R2 := fun x y H Q => r x y H Q ∨ s x y H Q
theorem opr_or {X : Cx} {f : Value → Value → Sem Value} {r s : R2} (h : OpR X f r) (h2 : OpR X f s) : OpR X f (orR r s) := fun pins sh σ H x y v u Q I a b c => c.elim (fun c => h pins sh σ H x y v u Q I a b c) fun c => h2 pins sh σ H x y v u Q I a b c
def orD (c : D → Bool) (f g : D → D → Option D) : D → D → Option D := fun a b => if c a = true then f a b else g a b
theorem op2_or {r s : R2} {c : D → Bool} {f g : D → D → Option D} (h : Op2 K r f) (h2 : Op2 K s g) : Op2 K (orR r s) (orD c f g) := fun {F H x y dx dy d Q} sm bx bY hd q => by
  unfold orD at hd
  split at hd
  · exact Or.inl (h sm bx bY hd q)
  · exact Or.inr (h2 sm bx bY hd q)
def isStrD : D → Bool
  | .str _ => true
  | _ => false
def isTupD : D → Bool
  | .tup _ => true
  | _ => false
def mulX : D → D → Option D := orD isStrD mulS mulI
def addX : D → D → Option D := orD isTupD addT addD
/-- == and != of texts -/
def eqS : D → D → Option D
  | .str x, .str y => some (.bl (decide (x = y)))
  | _, _ => none
theorem op2_eqS : Op2 K rEq eqS := fun {F H x y dx dy d Q} s bx bY hd q => by
  unfold eqS at hd
  split at hd
  · rename_i i j
    cases hd
    cases bx.isStr; cases bY.isStr
    have e : decide (V.str i = V.str j) = decide (i = j) := decide_eq_decide.mpr ⟨fun h => V.str.inj h, fun h => congrArg V.str h⟩
    exact ⟨rfl, by rw [e]; exact q F H _ (Ext.refl s) (.bl _)⟩
  · cases hd
/-- == and != of ints -/
def eqI : D → D → Option D
  | .int x, .int y => some (.bl (decide (x = y)))
  | _, _ => none
def neI : D → D → Option D
  | .int x, .int y => some (.bl (!decide (x = y)))
  | _, _ => none
theorem op2_eqI : Op2 K rEq eqI := fun {F H x y dx dy d Q} s bx bY hd q => by
  unfold eqI at hd
  split at hd
  · rename_i i j
    cases hd
    cases bx.isInt; cases bY.isInt
    have e : decide (V.int i = V.int j) = decide (i = j) := decide_eq_decide.mpr ⟨fun h => V.int.inj h, fun h => congrArg V.int h⟩
    exact ⟨rfl, by rw [e]; exact q F H _ (Ext.refl s) (.bl _)⟩
  · cases hd
theorem op2_neI : Op2 K rNe neI := fun {F H x y dx dy d Q} s bx bY hd q => by
  unfold neI at hd
  split at hd
  · rename_i i j
    cases hd
    cases bx.isInt; cases bY.isInt
    have e : decide (V.int i = V.int j) = decide (i = j) := decide_eq_decide.mpr ⟨fun h => V.int.inj h, fun h => congrArg V.int h⟩
    exact ⟨rfl, by rw [e]; exact q F H _ (Ext.refl s) (.bl _)⟩
  · cases hd
section
variable {X : Cx} {a b c e e2 : Expr} {ma mb : ME} {pos : Pos} {k : Nat}
theorem d_eqI (ha : PE X a (rE X.K ma)) (hb : PE X b (rE X.K mb)) : PE X (.Compare a [.Eq] [b] pos) (rE X.K (binM eqI ma mb)) := d_cmp op_eq op2_eqI ha hb (nomark _)
theorem t_neI (ha : PE X a (rE X.K ma)) (hb : PE X b (rE X.K mb)) : PT X (.Compare a [.NotEq] [b] pos) (rT X.K (bM (binM neI ma mb))) := t_cmp op_ne op2_neI ha hb (nomark _)
theorem t_eqS (ha : PE X a (rE X.K ma)) (hb : PE X b (rE X.K mb)) : PT X (.Compare a [.Eq] [b] pos) (rT X.K (bM (binM eqS ma mb))) := t_cmp op_eq op2_eqS ha hb (nomark _)
theorem d_mulX (ha : PE X a (rE X.K ma)) (hb : PE X b (rE X.K mb)) : PE X (.BinOp a .Mult b pos) (rE X.K (binM mulX ma mb)) := d_op (opr_or op_mulS op_mulW) (op2_or op2_mulS op2_mul) ha hb
theorem d_addX (ha : PE X a (rE X.K ma)) (hb : PE X b (rE X.K mb)) : PE X (.BinOp a .Add b pos) (rE X.K (binM addX ma mb)) := d_op (opr_or op_catA opr_add) (op2_or op2_addT op2_add) ha hb
end
end Dk
set_option exponentiation.threshold 256
namespace Dk
open PySem PySem.Spec PyProof.Rows L2
variable [TabP]
variable {K : PySem.W.Frag}
theorem FlOk.imp {F0 Gd F : Hp} {ios : List (Option Addr)} {e : Env} {G G' : Ends} {fl : Fl} (h : FlOk K F0 Gd ios F e G fl) (a : ∀ σ H, G.nx σ H → G'.nx σ H) (b : ∀ x H, G.rt x H → G'.rt x H) (c : ∀ σ H, G.bk σ H → G'.bk σ H) (d : ∀ σ H, G.ct σ H → G'.ct σ H) : FlOk K F0 Gd ios F e G' fl := by
  cases fl with
  | nx => exact fun F' H' σ' os' W s => a _ _ (h F' H' σ' os' W s)
  | bk => exact fun F' H' σ' os' W s => c _ _ (h F' H' σ' os' W s)
  | ct => exact fun F' H' σ' os' W s => d _ _ (h F' H' σ' os' W s)
  | rt v => exact fun F' H' σ' os' x W s r => b _ _ (h F' H' σ' os' x W s r)
  | rn v => exact fun F' H' σ' os' p W s o g f i => b _ _ (h F' H' σ' os' p W s o g f i)
section
variable {X : Cx} {st : Stmt} {sts : List Stmt} {e a b cnd : Expr} {es : List Expr} {c : Value} {W : WX} {n m m2 : MS} {mt ma mb : MT} {pos : Pos}
theorem impS {t u : TS} (h : PS X st t) (i : ∀ G σ H, u G σ H → t G σ H) : PS X st u := ⟨fun pins s σ H G I q => h.run pins s σ H G I (i G σ H q)⟩
theorem impSs {t u : TS} (h : PSs X sts t) (i : ∀ G σ H, u G σ H → t G σ H) : PSs X sts u := ⟨fun pins s σ H G I q => h.run pins s σ H G I (i G σ H q)⟩
theorem impE {t u : TE} (h : PE X e t) (i : ∀ σ H Q, u σ H Q → t σ H Q) : PE X e u := ⟨fun pins s σ H Q I q => h.run pins s σ H Q I (i σ H Q q)⟩
end
end Dk
set_option exponentiation.threshold 256
namespace Dk
open PySem PySem.Spec PyProof.Rows L2
end Dk
set_option exponentiation.threshold 256
namespace Dk
open PySem PySem.Spec PyProof.Rows L2
variable [TabP]
variable {K : PySem.W.Frag}
def putD (es : List (Key × D)) (k : Key) (d : D) : List (Key × D) := if (es.any fun p => decide (p.1 = k)) = true then es.map (fun p => if p.1 = k then (p.1, d) else p) else es ++ [(k, d)]
theorem RpK.any {F : Hp} (k : Key) : ∀ {kvs : List (Key × V)} {es : List (Key × D)}, RpK K F kvs es → (kvs.any fun p => decide (p.1 = k)) = (es.any fun p => decide (p.1 = k))
  | _, _, .nil => rfl
  | _, _, .cons _ r => by rw [List.any_cons, List.any_cons, RpK.any k r]
theorem RpK.rep {F : Hp} {k : Key} {v : V} {d : D} (r : Rp K F v d) : ∀ {kvs : List (Key × V)} {es : List (Key × D)}, RpK K F kvs es → RpK K F (kvs.map fun p => if p.1 = k then (p.1, v) else p) (es.map fun p => if p.1 = k then (p.1, d) else p)
  | _, _, .nil => .nil
  | _, _, .cons (k := j) h t => by
    rw [List.map_cons, List.map_cons]
    by_cases e : j = k
    · rw [if_pos e, if_pos e]; exact .cons r (RpK.rep r t)
    · rw [if_neg e, if_neg e]; exact .cons h (RpK.rep r t)
theorem RpK.snoc {F : Hp} {k : Key} {v : V} {d : D} (r : Rp K F v d) : ∀ {kvs : List (Key × V)} {es : List (Key × D)}, RpK K F kvs es → RpK K F (kvs ++ [(k, v)]) (es ++ [(k, d)])
  | _, _, .nil => .cons r .nil
  | _, _, .cons h t => .cons h (RpK.snoc r t)
theorem RpK.put {F : Hp} {k : Key} {v : V} {d : D} {kvs : List (Key × V)} {es : List (Key × D)} (h : RpK K F kvs es) (r : Rp K F v d) : RpK K F (putK kvs k v) (putD es k d) := by
  unfold putK putD
  rw [h.any k]
  split
  · exact h.rep r
  · exact h.snoc r
/-- d[k] -/
def dgD : D → D → Option D
  | .dic es, k => (keyD k).bind fun k => valD es k
  | _, _ => none
def rDG : R2 := fun x y H Q => ∃ a v, x = .ref a ∧ DGet H a y (some v) ∧ Q v H
theorem op2_dg : Op2 K rDG dgD := fun {F H x y dx dy d Q} s bx bY hd q => by
  unfold dgD at hd
  split at hd
  · obtain ⟨k, h1, h2⟩ := Option.bind_eq_some_iff.mp hd
    obtain ⟨a, kvs, rfl, ha, r⟩ := bx.isDic s
    obtain ⟨v, h3, h4⟩ := (RpK.val (k := k) r).2 _ h2
    have e := keyD_bw bY h1
    subst e
    refine ⟨a, v, rfl, ?_, q F H v (Ext.refl s) h4⟩
    rw [← h3]
    exact dgetR ha
  · cases hd
/-- a new dict -/
def newD : MN := fun e => some (.dic [], e)
theorem sim_newD : SimN K tDNewK newD := ⟨fun {F0 Gd ios F H σ e os d e' Q} W hm q => by
  cases hm
  intro p hp
  have fp : F p = none := by
    cases z : F p with
    | none => rfl
    | some o => rw [W.fh _ _ z] at hp; cases hp
  obtain ⟨W2, nw⟩ := W.lay (o := .dK []) (d := .dic []) hp ⟨fp, _, upd_same, .nil⟩
  exact q F _ os p W2 (Sm.refl _) nw⟩
/-- d[k] = v, d an owned name -/
def setDM (k : Nat) (m mi : ME) : MS := fun e => (m e).bind fun p => (tk p.2 p.1).bind fun q => (rdS q.2[k]?).bind fun _ => (mi q.2).bind fun r => (rd r.2 r.1).bind fun i => (keyD i).bind fun i => (ownD r.2 k).bind fun c => (asD c).bind fun es => (okB (few es.length)).bind fun _ =>
  (wr r.2 k (.dic (putD es i q.1))).map fun e2 => (.nx, e2)
theorem Ob.dic {F H : Hp} {p : Addr} {es : List (Key × D)} (h : Ob K F H p (.dic es)) : ∃ kvs, H p = some (.dK kvs) ∧ RpK K F kvs es := h.2
theorem sim_setD {k : Nat} {te ti : TE} {m mi : ME} (h : SimE K te m) (hi : SimE K ti mi) : SimS K (sDPut (tVar k) ti te) (setDM k m mi) := ⟨fun {F0 Gd ios F H σ e os fl e' G} W hm q => by
  unfold setDM at hm
  obtain ⟨⟨l1, e1⟩, h1, hm⟩ := Option.bind_eq_some_iff.mp hm
  obtain ⟨⟨d, e2⟩, h2, hm⟩ := Option.bind_eq_some_iff.mp hm
  obtain ⟨c0, hc0, hm⟩ := Option.bind_eq_some_iff.mp hm
  obtain ⟨⟨l3, e3⟩, h3, hm⟩ := Option.bind_eq_some_iff.mp hm
  obtain ⟨c1, h4, hm⟩ := Option.bind_eq_some_iff.mp hm
  obtain ⟨i, hj, hm⟩ := Option.bind_eq_some_iff.mp hm
  obtain ⟨c, hc, hm⟩ := Option.bind_eq_some_iff.mp hm
  obtain ⟨ds, hd, hm⟩ := Option.bind_eq_some_iff.mp hm
  obtain ⟨u, hx, hm⟩ := Option.bind_eq_some_iff.mp hm
  obtain ⟨e4, hw, hm⟩ := Option.map_eq_some_iff.mp hm
  cases hm
  cases asD_iff hd
  refine h.run W h1 fun F1 H1 os1 y W1 s1 k1 => ?_
  obtain ⟨F2, os2, W2, s2, r⟩ := W1.take k1 h2
  obtain ⟨xv, hxv⟩ := W2.val hc0
  refine ⟨xv, hxv, hi.run W2 h3 fun F3 H3 os3 z W3 s3 k3 => ?_⟩
  obtain ⟨p2, hp2, hv2, ob2⟩ := W3.at_ hc
  rw [hxv] at hv2; cases hv2
  obtain ⟨kvs, hx2, rx⟩ := ob2.dic
  have ey := keyD_bw (W3.bw k3 h4) hj
  subst ey
  refine ⟨p2, _, rfl, DPut.k hx2 (by rw [rx.length]; exact few_lt (okB_iff hx)), ?_⟩
  have ob3 : Ob K F3 (upd H3 p2 (.dK (putK kvs i y))) p2 (.dic (putD ds i d)) := ⟨ob2.1, _, upd_same, rx.put (r.mono s3)⟩
  exact q F3 _ σ os3 (W3.write hp2 ob3 hw) ((s1.trans s2).trans s3)⟩
def dcL (g : MG) (t : MT) (mk m : ME) (vs : List Nat) : List D → Env → List (Key × D) → Option (List (Key × D) × Env)
  | [], e, acc => some (acc, e)
  | d :: r, e, acc => (g d e).bind fun e1 => (t e1).bind fun p => if p.1 = true then (mk p.2).bind fun y => (m y.2).bind fun q => (tk q.2 q.1).bind fun z => (rd z.2 y.1).bind fun y => (keyD y).bind fun k => (okB (few acc.length)).bind fun _ => (wipeE z.2 vs).bind fun c => dcL g t mk m vs r c (putD acc k z.1)
    else (wipeE p.2 vs).bind fun c => dcL g t mk m vs r c acc
def dcM (mi : MI) (g : MG) (t : MT) (mk m : ME) (vs : List Nat) : MN := fun e => (mi e).bind fun p => (wipeE p.2 vs).bind fun c => (dcL g t mk m vs p.1 c []).map fun r => (.dic r.1, r.2)
theorem sim_dc {wi : TI} {g : TG} {tt : TT} {tk te : TE} {vs js : List Nat} {mi : MI} {mg : MG} {mt : MT} {mk m : ME} (hi : SimI K wi mi) (hg : SimG K g js mg) (ht : SimT K tt mt) (hk : SimE K tk mk) (he : SimE K te m) (hj : ∀ j ∈ js, j ∈ vs) :
    SimN K (tDc wi g tt tk te vs) (dcM mi mg mt mk m vs) := ⟨fun {F0 Gd ios F H σ e os dres e' Q} W hm q => by
  unfold dcM at hm
  obtain ⟨⟨ds, e1⟩, h1, hm⟩ := Option.bind_eq_some_iff.mp hm
  obtain ⟨c0, h2, hm⟩ := Option.bind_eq_some_iff.mp hm
  obtain ⟨⟨res, ef⟩, h3, hm⟩ := Option.map_eq_some_iff.mp hm
  cases hm
  refine hi.run W h1 fun F1 H1 os1 J W1 s1 it => ?_
  intro P nP
  obtain ⟨os2, W2⟩ := W1.wipe h2
  have gP : Gd P = none := W1.noGd nP
  refine ⟨fun i n Hc => ∃ F' os' c av ad, WOk K F0 (upd Gd P (.dK av)) ios F' Hc (L2.wipe σ vs) c os' ∧ Sm F1 F' ∧ RpK K F' av ad ∧ (∀ v ∈ vs, c[v]? = some .no) ∧ dcL mg mt mk m vs (ds.drop i) c ad = some (res, ef) ∧ n = ds.length - i ∧ i ≤ ds.length,
    ⟨ds.length, F1, os2, c0, [], [], W2.guardNew nP, Sm.refl _, .nil, wipeE_no h2, h3, rfl, Nat.zero_le _⟩, ?_⟩
  rintro i n Hc ⟨F', os', c, av, ad, W', s', ra, hno, hf, rfl, hle⟩
  have J' := it F' Hc i s' W'.fh
  by_cases hl : i < ds.length
  · have hd : ds[i]? = some ds[i] := List.getElem?_eq_getElem hl
    obtain ⟨go, yl⟩ := J'.1 _ hd
    rw [List.drop_eq_getElem_cons hl] at hf
    unfold dcL at hf
    obtain ⟨e2, k2, hf⟩ := Option.bind_eq_some_iff.mp hf
    obtain ⟨⟨b3, e3⟩, k3, hf⟩ := Option.bind_eq_some_iff.mp hf
    refine .inr ⟨go, fun H2 => ∃ F2 os2 c2 av ad, WOk K F0 (upd Gd P (.dK av)) ios F2 H2 (L2.wipe σ vs) c2 os2 ∧ Sm F1 F2 ∧ RpK K F2 av ad ∧ (∀ v ∈ vs, c2[v]? = some .no) ∧ dcL mg mt mk m vs (ds.drop (i + 1)) c2 ad = some (res, ef), ?_, ?_⟩
    · rintro H2 ⟨F2, os2, c2, av2, ad2, W2, s2, r2, n2, f2⟩
      exact ⟨ds.length - (i + 1), by omega, F2, os2, c2, av2, ad2, W2, s2, r2, n2, f2, rfl, hl⟩
    · intro x H2 hy
      obtain ⟨F2, x2, rp⟩ := yl x H2 hy
      refine hg.run (W'.ext x2) rp k2 fun F3 H3 σ3 os3 W3 s3 b3' => ?_
      have wb : L2.wipe σ3 vs = L2.wipe σ vs := wipe_but b3' hj
      refine ⟨wb, ht.run W3 k3 fun F4 H4 os4 W4 s4 => ?_⟩
      have sAll : Sm F' F4 := (x2.f.trans s3).trans s4
      cases b3 with
      | false =>
        refine iteF ?_
        rw [if_neg Bool.false_ne_true] at hf
        obtain ⟨c5, k5, hf⟩ := Option.bind_eq_some_iff.mp hf
        obtain ⟨os5, W5⟩ := W4.wipe k5
        rw [wb] at W5
        exact ⟨F4, os5, c5, av, ad, W5, s'.trans sAll, ra.mono sAll, wipeE_no k5, hf⟩
      | true =>
        refine iteT ?_
        rw [if_pos rfl] at hf
        obtain ⟨⟨ly, ey⟩, ky, hf⟩ := Option.bind_eq_some_iff.mp hf
        obtain ⟨⟨l5, e5⟩, k5, hf⟩ := Option.bind_eq_some_iff.mp hf
        obtain ⟨⟨d6, e6⟩, k6, hf⟩ := Option.bind_eq_some_iff.mp hf
        obtain ⟨y6, k6y, hf⟩ := Option.bind_eq_some_iff.mp hf
        obtain ⟨kk, k6k, hf⟩ := Option.bind_eq_some_iff.mp hf
        obtain ⟨u7, k7, hf⟩ := Option.bind_eq_some_iff.mp hf
        obtain ⟨c8, k8, hf⟩ := Option.bind_eq_some_iff.mp hf
        refine hk.run W4 ky fun Fy Hy osy yv Wy sy ly' => ?_
        refine he.run Wy k5 fun F5 H5 os5 y W5 s5 l5' => ?_
        obtain ⟨F6, os6, W6, s6, r6⟩ := W5.take l5' k6
        have sA2 : Sm F' F6 := ((sAll.trans sy).trans s5).trans s6
        have ek := keyD_bw (W6.bw (ly'.mono (s5.trans s6)) k6y) k6k
        refine ⟨av, kk, ek, (W6.gd P _ upd_same).1, by rw [ra.length]; exact few_lt (okB_iff k7), ?_⟩
        obtain ⟨os8, W8⟩ := (W6.guard (o' := .dK (putK av kk y))).wipe k8
        rw [wb] at W8
        exact ⟨F6, os8, c8, _, _, W8, s'.trans sA2, (ra.mono sA2).put r6, wipeE_no k8, hf⟩
  · have hn : ds.length ≤ i := Nat.le_of_not_lt hl
    rw [List.drop_of_length_le hn] at hf
    cases hf
    obtain ⟨g1, g2, g3⟩ := W'.gd P _ upd_same
    refine .inl ⟨J'.2 (Nat.le_antisymm hle hn), q F' Hc os' P ((W'.unguard gP).unwipe hno) (s1.trans s') ⟨⟨g2, av, g1, ra⟩, gP, g3⟩⟩⟩
section
variable {X : Cx} {a b e : Expr} {ma mb m : ME} {pos : Pos} {k : Nat}
theorem d_dget (hr : Room k X.A) (ha : PE X a (rE X.K ma)) (hb : PE X b (rE X.K mb)) (hs : NoSl b := by intro _ _; rfl) : PE X (.Subscript a b pos) (rE X.K (binM dgD ma mb)) := toE (pe_dget (by have := hr.units; omega) ha hb hs) (sim_op op2_dg sim_rE sim_rE)
theorem d_dnew : PE X (.Dict [] [] pos) (rN X.K newD) := toN pe_dnewK sim_newD
theorem s_dput (i : Nat) {x : Str} {p p2 : Pos} (hr : Room k X.A) (he : PE X e (rE X.K m)) (ha : PE X a (rE X.K ma)) (hN : X.N[i]? = some x := by rfl) (hv : Vis X.env.scope x := by first | exact Or.inl rfl | exact Or.inr (Or.inl rfl) | exact Or.inr (Or.inr rfl)) (hd : (x == ("__debug__" : Str)) = false := by decide)
    (hcd : (x == ("__classdict__" : Str)) = false := by decide) (hs : swapsWith e (some (.Subscript (.Name x p) a p2)) pos.line X.env = pure false := by rfl) :
    PS X (.Assign [.Subscript (.Name x p) a p2] e pos) (rS X.K (setDM i m ma)) := toS (ps_dput (by have := hr.units; omega) (pe_var hN hv hd hcd) ha he hs) (sim_setD sim_rE sim_rE)
theorem d_dc {kx tg iter : Expr} {ifs : List Expr} {scope : Scope} (own : List (Str × Nat)) {mi : MI} {js : List Nat} {g : MG} {t : MT} {mk : ME} (hc : X.calm = true) (hN : X.N.Nodup) (hi : PI X tg iter (rIt X.K mi)) (ok : blkC X.N X.env.scope scope own = true)
    (hg : ∀ (s : Shared) (H : Hp) (C : Addr) (cl : List (Str × Addr)) (fp : List Addr), PG (X.blk s H scope (compEnvC scope cl C X.env) fp) tg (rG X.K js g)) (ht : ∀ (s : Shared) (H : Hp) (C : Addr) (cl : List (Str × Addr)) (fp : List Addr), PTs (X.blk s H scope (compEnvC scope cl C X.env) fp) ifs (rT X.K t))
    (hk : ∀ (s : Shared) (H : Hp) (C : Addr) (cl : List (Str × Addr)) (fp : List Addr), PE (X.blk s H scope (compEnvC scope cl C X.env) fp) kx (rE X.K mk))
    (he : ∀ (s : Shared) (H : Hp) (C : Addr) (cl : List (Str × Addr)) (fp : List Addr), PE (X.blk s H scope (compEnvC scope cl C X.env) fp) e (rE X.K m)) (hj : ∀ j ∈ js, j ∈ own.map (·.2) := by decide) (hs : ∀ x, foldedSetIterable iter X.env x = pure x := by intro _; rfl) :
    PE X (.DictComp kx e [⟨tg, iter, ifs, 0⟩] scope pos) (rN X.K (dcM mi g t mk m (own.map (·.2)))) := toN (pe_dc hc hN hi (blkOk_by ok) hg ht hk he hs) (sim_dc sim_rI sim_rG sim_rT sim_rE sim_rE hj)
end
end Dk
set_option exponentiation.threshold 256
namespace Dk
open PySem PySem.Spec PyProof.Rows L2
variable [TabP]
variable {K : PySem.W.Frag}
def intsD : List D → Option (List Int)
  | [] => some []
  | .int i :: r => (intsD r).map fun l => i :: l
  | _ :: _ => none
theorem intsD_iff : ∀ {ds : List D} {ns : List Int}, intsD ds = some ns → ds = ns.map D.int
  | [], _, h => by cases h; rfl
  | .int i :: r, _, h => by
    obtain ⟨l, h1, h2⟩ := Option.map_eq_some_iff.mp h
    cases h2
    rw [List.map_cons, intsD_iff h1]
end Dk
set_option exponentiation.threshold 256
namespace Dk
open PySem PySem.Spec PyProof.Rows L2
variable [TabP]
variable {K : PySem.W.Frag}
def mergeD (es more : List (Key × D)) : List (Key × D) := more.foldl (fun acc kv => putD acc kv.1 kv.2) es
theorem RpK.merge {F : Hp} : ∀ {more : List (Key × V)} {ms : List (Key × D)} {kvs : List (Key × V)} {es : List (Key × D)}, RpK K F more ms → RpK K F kvs es → RpK K F (mergeK kvs more) (mergeD es ms)
  | _, _, _, _, .nil, h => h
  | _, _, _, _, .cons r t, h => by
    unfold mergeK mergeD
    rw [List.foldl_cons, List.foldl_cons]
    exact RpK.merge t (h.put r)
end Dk
set_option exponentiation.threshold 256
namespace Dk
open PySem PySem.Spec PyProof.Rows L2
end Dk
set_option exponentiation.threshold 256
namespace Dk
open PySem PySem.Spec PyProof.Rows L2
variable [TabP]
variable {K : PySem.W.Frag}
def dd : List Int → List Int
  | [] => []
  | x :: r => if x ∈ r then dd r else x :: dd r
end Dk
set_option exponentiation.threshold 256
namespace Dk
open PySem PySem.Spec PyProof.Rows L2
end Dk
set_option exponentiation.threshold 256
namespace Dk
open PySem PySem.Spec PyProof.Rows L2
variable [TabP]
/-- m tells d and leaves the slots as they are -/
def Gv (m : ME) (e : Env) (d : D) : Prop := ∃ l, m e = some (l, e) ∧ tk e l = some (d, e) ∧ rd e l = some (wk d)
def GvA (m : MA) (e : Env) (ds : List D) : Prop := ∃ ls, m e = some (ls, e) ∧ tks e ls = some (ds, e) ∧ rds e ls = some (ds.map wk)
section
variable {e : Env}
theorem gv_v {m : ME} {d : D} (h : m e = some (.v d, e)) : Gv m e d := ⟨_, h, rfl, rfl⟩
theorem gv_var {i : Nat} {d : D} (h : e[i]? = some (.fz d)) : Gv (varM i) e d := by
  refine ⟨.s i, ?_, ?_, ?_⟩
  · unfold varM; rw [h]; rfl
  · unfold tk; dsimp only; rw [h]
  · unfold rd rdR; dsimp only; rw [h]; rfl
theorem gv_c (d : D) : Gv (cM d) e d := gv_v rfl
theorem gv_nil : GvA nilA e [] := ⟨[], rfl, rfl, rfl⟩
theorem gv_cons {m : ME} {r : MA} {d : D} {ds : List D} (h : Gv m e d) (hr : GvA r e ds) : GvA (consA m r) e (d :: ds) := by
  obtain ⟨l, h1, h2, h3⟩ := h
  obtain ⟨ls, k1, k2, k3⟩ := hr
  refine ⟨l :: ls, ?_, ?_, ?_⟩
  · unfold consA
    rw [h1, Option.bind_some]
    dsimp only
    rw [k1]; rfl
  · unfold tks
    rw [h2, Option.bind_some]
    dsimp only
    rw [k2]; rfl
  · unfold rds
    rw [h3, Option.bind_some, k3]; rfl
theorem gv_1 {m : ME} {d : D} (h : Gv m e d) : GvA (consA m nilA) e [d] := gv_cons h gv_nil
theorem gv_2 {m n : ME} {d c : D} (h : Gv m e d) (k : Gv n e c) : GvA (consA m (consA n nilA)) e [d, c] := gv_cons h (gv_1 k)
theorem gv_3 {m n o : ME} {d c b : D} (h : Gv m e d) (k : Gv n e c) (j : Gv o e b) : GvA (consA m (consA n (consA o nilA))) e [d, c, b] := gv_cons h (gv_2 k j)
theorem gv_bin {op : D → D → Option D} {ma mb : ME} {a b c : D} (h1 : Gv ma e a) (h2 : Gv mb e b) (h3 : op (wk a) (wk b) = some c) : Gv (binM op ma mb) e c := by
  obtain ⟨l, h1, _, r1⟩ := h1
  obtain ⟨k, h2, _, r2⟩ := h2
  refine gv_v ?_
  unfold binM
  rw [h1, Option.bind_some]
  dsimp only
  rw [h2, Option.bind_some]
  dsimp only
  rw [r1, Option.bind_some, r2, Option.bind_some, h3]; rfl
theorem gv_cb {op : List D → Option D} {ma : MA} {ds : List D} {c : D} (h : GvA ma e ds) (h3 : op (ds.map wk) = some c) : Gv (cbM op ma) e c := by
  obtain ⟨ls, h1, _, h2⟩ := h
  refine gv_v ?_
  unfold cbM
  rw [h1, Option.bind_some]
  dsimp only
  rw [h2, Option.bind_some, h3]; rfl
theorem gv_frz {m : MN} {d : D} (h : m e = some (d, e)) : Gv (frzM m) e d := gv_v (by unfold frzM; rw [h]; rfl)
theorem gv_lst {ma : MA} {ds : List D} (h : GvA ma e ds) (hl : ds.length ≤ 1000) : lstM ma e = some (.lst ds, e) := by
  obtain ⟨ls, h1, h2, _⟩ := h
  have hf : few ds.length = true := decide_eq_true (by omega)
  unfold lstM
  rw [h1, Option.bind_some]
  dsimp only
  rw [h2, Option.bind_some]
  dsimp only
  rw [if_pos hf]
theorem st_seq {a b : MS} {e1 : Env} {z : Option (Fl × Env)} (h : a e = some (.nx, e1)) (k : b e1 = z) : seqM a b e = z := by
  unfold seqM
  rw [h, Option.bind_some]; exact k
theorem st_ret {m : ME} {d : D} (h : Gv m e d) : retM m e = some (.rt d, e) := by
  obtain ⟨l, h1, h2, _⟩ := h
  unfold retM
  rw [h1, Option.bind_some]
  dsimp only
  rw [h2]; rfl
/-- a call with an owned first argument -/
theorem ev_callC {k : Nat} {f : MS} {ma : MA} {ds : List D} {c c2 r : D} {fl : Fl} {a e2 : Env} (h : GvA ma e ds) (ho : ownD e k = some c) (hf : f (.io c :: ds.map .fz) = some (fl, .io c2 :: a)) (hw : wr e k c2 = some e2) (hr : resV fl = some r) : callC k f ma e = some (.v r, e2) := by
  obtain ⟨ls, h1, h2, _⟩ := h
  unfold callC
  rw [ho, Option.bind_some, h1, Option.bind_some]
  dsimp only
  rw [h2, Option.bind_some]
  dsimp only
  rw [ho, Option.bind_some, hf, Option.bind_some]
  show (some c2).bind _ = _
  rw [Option.bind_some]
  dsimp only
  rw [hw, Option.bind_some, hr]; rfl
theorem st_fn {n k : Nat} {b : MS} {a e : Env} {fl : Fl} (h : a.length = n) (hb : b (a ++ List.replicate k .no) = some (fl, e)) : fnM n k b a = some (fl, e) := by
  unfold fnM
  rw [if_pos h]
  exact hb
end
end Dk
set_option exponentiation.threshold 256
namespace Dk
open PySem PySem.Spec PyProof.Rows L2
variable [TabP]
variable {K : PySem.W.Frag}
def keysD : List D → Option (List Key)
  | [] => some []
  | d :: r => (keyD d).bind fun k => (keysD r).map fun ks => k :: ks
def kD : Key → D
  | .inl i => .int i
  | .inr x => .str x
theorem kD_rp {F : Hp} (k : Key) : Rp K F (kV k) (kD k) := by
  cases k with
  | inl i => exact .int i
  | inr x => exact .str x
theorem kDs_rp {F : Hp} : ∀ ks : List Key, RpL K F (ks.map kV) (ks.map kD)
  | [] => .nil
  | k :: r => .cons (kD_rp k) (kDs_rp r)
theorem keysD_rp {F : Hp} : ∀ {xs : List V} {ds : List D} {ks : List Key}, RpL K F xs ds → keysD ds = some ks → xs = ks.map kV
  | _, _, _, .nil, h => by cases h; rfl
  | _, _, _, .cons r t, h => by
    obtain ⟨k, h1, h⟩ := Option.bind_eq_some_iff.mp h
    obtain ⟨ks, h2, h⟩ := Option.map_eq_some_iff.mp h
    cases h
    have e1 := keyD_bw (H := F) (.inl r) h1
    have e2 := keysD_rp t h2
    subst e1 e2
    rfl
def tkey : D → Option (List Key)
  | .tup ds => keysD ds
  | .hup ds => keysD ds
  | .gup ds => keysD ds
  | _ => none
def valT (es : List (List Key × D)) (k : List Key) : Option D := (es.find? fun p => decide (p.1 = k)).map (·.2)
def putT (es : List (List Key × D)) (k : List Key) (d : D) : List (List Key × D) := if (es.any fun p => decide (p.1 = k)) = true then es.map (fun p => if p.1 = k then (p.1, d) else p) else es ++ [(k, d)]
theorem RpT.length {F : Hp} : ∀ {kvs : List (List Key × V)} {es : List (List Key × D)}, RpT K F kvs es → kvs.length = es.length
  | _, _, .nil => rfl
  | _, _, .cons _ r => by rw [List.length_cons, List.length_cons, RpT.length r]
theorem RpT.any {F : Hp} (k : List Key) : ∀ {kvs : List (List Key × V)} {es : List (List Key × D)}, RpT K F kvs es → (kvs.any fun p => decide (p.1 = k)) = (es.any fun p => decide (p.1 = k))
  | _, _, .nil => rfl
  | _, _, .cons _ r => by rw [List.any_cons, List.any_cons, RpT.any k r]
theorem RpT.rep {F : Hp} {k : List Key} {v : V} {d : D} (r : Rp K F v d) : ∀ {kvs : List (List Key × V)} {es : List (List Key × D)}, RpT K F kvs es → RpT K F (kvs.map fun p => if p.1 = k then (p.1, v) else p) (es.map fun p => if p.1 = k then (p.1, d) else p)
  | _, _, .nil => .nil
  | _, _, .cons (k := j) h t => by
    rw [List.map_cons, List.map_cons]
    by_cases e : j = k
    · rw [if_pos e, if_pos e]; exact .cons r (RpT.rep r t)
    · rw [if_neg e, if_neg e]; exact .cons h (RpT.rep r t)
theorem RpT.snoc {F : Hp} {k : List Key} {v : V} {d : D} (r : Rp K F v d) : ∀ {kvs : List (List Key × V)} {es : List (List Key × D)}, RpT K F kvs es → RpT K F (kvs ++ [(k, v)]) (es ++ [(k, d)])
  | _, _, .nil => .cons r .nil
  | _, _, .cons h t => .cons h (RpT.snoc r t)
theorem RpT.put {F : Hp} {k : List Key} {v : V} {d : D} {kvs : List (List Key × V)} {es : List (List Key × D)} (h : RpT K F kvs es) (r : Rp K F v d) : RpT K F (putK kvs k v) (putT es k d) := by
  unfold putK putT
  rw [h.any k]
  split
  · exact h.rep r
  · exact h.snoc r
theorem RpT.val {F : Hp} (k : List Key) : ∀ {kvs : List (List Key × V)} {es : List (List Key × D)}, RpT K F kvs es → ((valV kvs k).isSome = (valT es k).isSome) ∧ ∀ d, valT es k = some d → ∃ v, valV kvs k = some v ∧ Rp K F v d
  | _, _, .nil => ⟨rfl, fun d h => by cases h⟩
  | _, _, .cons (k := j) (v := v) (vs := vs) (d := d) (ds := ds) h t => by
    have ih := RpT.val k t
    unfold valV valT at ih ⊢
    rw [List.find?_cons, List.find?_cons]
    by_cases e : j = k
    · rw [show decide (((j, v) : List Key × V).1 = k) = true from decide_eq_true e]
      exact ⟨rfl, fun d' h' => by cases h'; exact ⟨v, rfl, h⟩⟩
    · rw [show decide (((j, v) : List Key × V).1 = k) = false from decide_eq_false e]
      exact ih
def inT (neg : Bool) : D → D → Option D
  | x, .dit es => (tkey x).map fun k => .bl (xor neg (valT es k).isSome)
  | _, _ => none
/-- d[k] = v, d an owned name; the key's tuple is a tracked one -/
def asH : D → Option (List D)
  | .hup ds => some ds
  | _ => none
theorem asH_iff {d : D} {x : List D} (h : asH d = some x) : d = .hup x := by cases d <;> first | (cases h; done) | (cases h; rfl)
def asDT : D → Option (List (List Key × D))
  | .dit i => some i
  | _ => none
theorem asDT_iff {d : D} {x : List (List Key × D)} (h : asDT d = some x) : d = .dit x := by cases d <;> first | (cases h; done) | (cases h; rfl)
theorem Ob.dit {F H : Hp} {p : Addr} {es : List (List Key × D)} (h : Ob K F H p (.dit es)) : ∃ kvs, H p = some (.dT kvs) ∧ RpT K F kvs es := h.2
theorem Bw.isHup {F H : Hp} {x : V} {ds : List D} (s : Same F H) (h : Bw K F H x (.hup ds)) : ∃ a xs, x = .ref a ∧ F a = some (.tup xs) ∧ RpL K F xs ds := by
  rcases h with h | ⟨p, rfl, h⟩
  · cases h with
    | hup h r => exact ⟨_, _, rfl, h, r⟩
  · exact h.2.elim
def tDispT (tk tv : TE) : TE := fun σ H Q => ∀ p, H p = none → tk σ (upd H p (.dT [])) fun x H1 => tv σ H1 fun y H2 => H2 p = some (.dT []) ∧ ∃ b ks, x = .ref b ∧ H2 b = some (.tup (ks.map kV)) ∧ Q (.ref p) (upd H2 p (.dT [(ks, y)]))
theorem pe_dispT {X : Cx} {k v : Expr} {tk tv : TE} {pos : Pos} (hu : X.A.units + 1 < cLine) (hk : PE X k tk) (hv : PE X v tv) : PE X (.Dict [some k] [v] pos) (tDispT tk tv) := by
  refine ⟨fun pins s σ H Q I q => ?_⟩
  have hn := I.hok.fresh (Nat.le_refl s.heap.objs.size)
  have I1 := I.laid (a := s.heap.objs.size) (o := .dT []) (h' := s.heap.push { cls := .type "dict", data := .dict #[] }) (t' := s.toks) (fun _ _ q => Heap.get?_push_of_some _ q) (Nat.le_refl _) (dt_empty s.heap I.big)
  have q1 := q _ hn
  have hl : (pairTrees [some k] [v] X.env pos).length ≤ 15 := by show 1 ≤ 15; decide
  have hshape : (evalEachOpt [some k] X.env).zip ((evalEach [v] X.env).map fun v => do let x ← v; standAt pos; pure x) = (pairTrees [some k] [v] X.env pos).map fun p => (some p.1, p.2) := rfl
  rw [arm_eval_Dict, hshape, dictDisplay_pairs _ (by intro z; cases z) (by omega)]
  refine wpAny_bind (wpAny_standAt (wpAny_bind (wpAny_subDictH (knd := tupleKind (mixKind X.prog X.w)) (Q := fun d s' => wpAny (model X.prog X.w) X.A (pure (Value.ref d)) (EP X pins σ Q) X.xe s') (show X.A.units < cLine by omega) hl ?_)))
  refine thn ((pps_cons hk hv pps_nil).run pins _ σ _ (fun ps H2 => match ps with
    | [(x, y)] => H2 s.heap.objs.size = some (.dT []) ∧ ∃ b ks, x = .ref b ∧ H2 b = some (.tup (ks.map kV)) ∧ Q (.ref s.heap.objs.size) (upd H2 s.heap.objs.size (.dT [(ks, y)]))
    | _ => False) I1 q1) ?_
  rintro ws s2 ⟨ps, H2, I2, rel, q2⟩
  cases rel with
  | nil => exact q2.elim
  | cons r1 rel =>
    cases rel with
    | cons _ _ => exact q2.elim
    | nil =>
      rename_i pv wv
      obtain ⟨x, y⟩ := pv
      obtain ⟨u1, u2⟩ := wv
      obtain ⟨e, b, ks, ex, hb, q2⟩ := q2
      subst ex
      obtain ⟨r1, r2⟩ := r1
      cases r1
      obtain ⟨z, hd, xs, rel0, dd⟩ := dt_of I2.hok e
      cases rel0
      refine ⟨[(ks, b, u2)], ⟨rfl, rfl, key_of I2.hok hb, trivial⟩, dd, fun h' tk dd' hs => wpAny_pure ⟨.ref s.heap.objs.size, _, ?_, rfl, q2⟩⟩
      obtain ⟨o, es, ep, hq, h2, h3, h4, _, h5⟩ := dd'
      refine d_write I2 (by rw [e]; exact True.intro) hs ⟨o, hq⟩ ⟨by show 1 ≤ sizeLine; rw [sizeLine_eq]; decide, hd, [(ks, b, u2)], .cons ⟨rfl, ?_, r2⟩ .nil, o, es, ep, hq, h2, h3, h4, h5⟩
      rw [upd_ne (ne_of hb e (fun z => nomatch z))]
      exact hb
def dispT (mk m : ME) : MN := fun e => (mk e).bind fun p => (m p.2).bind fun q => (tk q.2 q.1).bind fun z => (rdR z.2 p.1).bind fun i => (asH i).bind fun i => (keysD i).map fun k => (.dit [(k, z.1)], z.2)
theorem sim_dispT {tk te : TE} {mk m : ME} (hk : SimE K tk mk) (he : SimE K te m) : SimN K (tDispT tk te) (dispT mk m) := ⟨fun {F0 Gd ios F H σ e os d e' Q} W hm q => by
  unfold dispT at hm
  obtain ⟨⟨l1, e1⟩, h1, hm⟩ := Option.bind_eq_some_iff.mp hm
  obtain ⟨⟨l2, e2⟩, h2, hm⟩ := Option.bind_eq_some_iff.mp hm
  obtain ⟨⟨d3, e3⟩, h3, hm⟩ := Option.bind_eq_some_iff.mp hm
  obtain ⟨i0, h4, hm⟩ := Option.bind_eq_some_iff.mp hm
  obtain ⟨i, h5, hm⟩ := Option.bind_eq_some_iff.mp hm
  obtain ⟨ks, h6, hm⟩ := Option.map_eq_some_iff.mp hm
  cases hm
  cases asH_iff h5
  intro P nP
  have gP : Gd P = none := W.noGd nP
  refine hk.run (W.guardNew (o := .dT []) nP) h1 fun F1 H1 os1 x W1 s1 k1 => ?_
  refine he.run W1 h2 fun F2 H2 os2 y W2 s2 k2 => ?_
  obtain ⟨F3, os3, W3, s3, r3⟩ := W2.take k2 h3
  obtain ⟨g1, g2, g3⟩ := W3.gd P _ upd_same
  obtain ⟨b, bs, rfl, hb, rb⟩ := (W3.bwR (k1.mono (s2.trans s3)) h4).isHup W3.fh
  have eb := keysD_rp rb h6
  subst eb
  refine ⟨g1, b, ks, rfl, W3.fh _ _ hb, ?_⟩
  have W4 := (W3.guard (o' := .dT [(ks, y)])).unguard gP
  exact q F3 _ os3 P W4 ((s1.trans s2).trans s3) ⟨⟨g2, _, upd_same, .cons r3 .nil⟩, gP, g3⟩⟩
def lenT : List D → Option D
  | [.dit es] => some (.int (es.length : Nat))
  | _ => none
def rLenY : List V → Hp → VK → Prop := fun xs H Q => ∃ (p : Addr) (kvs : List (List Key × V)), xs = [.ref p] ∧ Rd H p (.dT kvs) ∧ Q (.int ((kvs.length : Nat) : Int)) H
theorem call_len_dY {X : Cx} : CallR X (.builtin "len") rLenY := by
  intro pins s σ H xs us Q I r h
  obtain ⟨p, kvs, rfl, hp, q⟩ := h
  obtain ⟨u, rfl, rx⟩ := vals1 r
  obtain rfl : u = .ref p := rx
  obtain ⟨z, hd, ys, rel, dd⟩ := dt_rd I.hok hp
  have hl : kvs.length = ys.length := Paired.length rel
  refine PySem.call_len_dictH hd dd (by rw [← hl]; rw [sizeLine_eq] at z; omega) ?_
  rw [← hl]
  exact ⟨.int ((kvs.length : Nat) : Int), H, I.tok _, ⟨_, rfl⟩, q⟩
theorem opA_lenT : OpA K rLenY lenT := fun {F H xs ds d Q} s b hd q => by
  unfold lenT at hd
  split at hd
  · cases hd
    obtain ⟨x, rfl, b1⟩ := b.one
    obtain ⟨a, kvs, rfl, ha, r⟩ := b1.isDit s
    refine ⟨a, kvs, rfl, ha, ?_⟩
    rw [r.length]
    exact q F H _ (Ext.refl s) (.int _)
  · cases hd
end Dk
set_option exponentiation.threshold 256
namespace Dk
open PySem PySem.Spec PyProof.Rows L2
variable [TabP]
variable {K : PySem.W.Frag}
section
variable {X : Cx} {a b e : Expr} {ma mb m : ME} {pos : Pos} {k : Nat} {es : List Expr}
theorem d_dispT (hr : Room k X.A) (ha : PE X a (rE X.K ma)) (hb : PE X b (rE X.K mb)) : PE X (.Dict [some a] [b] pos) (rN X.K (dispT ma mb)) := toN (pe_dispT (by have := hr.units; omega) ha hb) (sim_dispT sim_rE sim_rE)
theorem d_lenT {mr : MA} {p : Pos} (hm : X.mg "len" = none) (ha : PA X (e :: es) (rA X.K mr)) (hg : Gl X "len" := by rfl) (he : starEach (e :: es) X.env = (false, eval e X.env) :: starEach es X.env := by rfl) (hpl : (backTo pos (starEach es X.env)).any (·.1) = false := by rfl) :
    PE X (.Call (.Name "len" p) (e :: es) [] pos) (rE X.K (cbM lenT mr)) := d_cb call_len_dY opA_lenT hm (by decide +kernel) ha hg (by decide) (by decide) he hpl
end
end Dk
set_option exponentiation.threshold 256
namespace Dk
open PySem PySem.Spec PyProof.Rows L2
variable [TabP]
variable {K : PySem.W.Frag}
section
variable {F0 Gd F H F' H' : Hp} {ios os os' : List (Option Addr)} {σ : L2.St} {e e' : Env} {p : Addr} {d : D} {o : HO}
/-- a new object is put under guard -/
theorem Nw.guard (n : Nw K Gd F H os p d) (W : WOk K F0 Gd ios F H σ e os) : ∃ o, H p = some o ∧ WOk K F0 (upd Gd p o) ios F H σ e os := by
  obtain ⟨o, ho⟩ := n.ob.has
  refine ⟨o, ho, { W with gd := fun a u h => ?_, ng := fun a ps h => ?_ }⟩
  · by_cases z : a = p
    · subst z
      rw [upd_same] at h; cases h
      exact ⟨ho, n.ob.1, n.no⟩
    · rw [upd_ne z] at h
      exact W.gd a u h
  · by_cases z : a = p
    · subst z
      rw [upd_same] at h
      exact (n.ob.noTab o ho).1 ps (Option.some.inj h)
    · rw [upd_ne z] at h
      exact W.ng a ps h
/-- .. and taken back -/
theorem Nw.back (n : Nw K Gd F H os p d) (ho : H p = some o) (W : WOk K F0 (upd Gd p o) ios F' H' σ e' os') (s : Sm F F') : WOk K F0 Gd ios F' H' σ e' os' ∧ Nw K Gd F' H' os' p d := by
  obtain ⟨g1, g2, g3⟩ := W.gd p _ upd_same
  exact ⟨W.unguard n.gd, n.ob.keep s (by rw [ho]; exact g1) g2, n.gd, g3⟩
end
theorem Nw.set {Gd F H : Hp} {os : List (Option Addr)} {p : Addr} {d : D} {i : Nat} {o : Option Addr} (n : Nw K Gd F H os p d) (h : o ≠ some p) : Nw K Gd F H (os.set i o) p d := ⟨n.ob, n.gd, fun l z => by
  by_cases e : i = l
  · subst e
    by_cases hl : i < os.length
    · rw [List.getElem?_set_self hl] at z; exact h (Option.some.inj z)
    · rw [List.getElem?_eq_none (by rw [List.length_set]; omega)] at z; cases z
  · rw [List.getElem?_set_ne e] at z
    exact n.no l z⟩
end Dk
set_option exponentiation.threshold 256
namespace Dk
open PySem PySem.Spec PyProof.Rows L2
variable [TabP]
variable {K : PySem.W.Frag}
def asO (n : Str) : D → Option (List (Str × D))
  | .obj k fs => if k = n then some fs else none
  | _ => none
theorem asO_iff {n : Str} {d : D} {fs : List (Str × D)} (h : asO n d = some fs) : d = .obj n fs := by
  unfold asO at h
  split at h
  · split at h
    · rename_i e; cases h; rw [e]
    · cases h
  · cases h
theorem RpF.look {F : Hp} {f : Str} {d : D} : ∀ {vs : List (Str × V)} {fs : List (Str × D)}, RpF K F vs fs → fs.lookup f = some d → ∃ v, vs.lookup f = some v ∧ Rp K F v d
  | _, _, .nil, h => by cases h
  | _, _, .cons (k := k) (v := v) (d := c) r t, h => by
    rw [List.lookup_cons] at h ⊢
    by_cases e : f = k
    · subst e
      rw [beq_self_eq_true] at h ⊢
      cases h
      exact ⟨v, rfl, r⟩
    · rw [beq_eq_false_iff_ne.mpr e] at h ⊢
      exact RpF.look t h
theorem RpF.length {F : Hp} : ∀ {vs : List (Str × V)} {fs : List (Str × D)}, RpF K F vs fs → vs.length = fs.length
  | _, _, .nil => rfl
  | _, _, .cons _ t => by rw [List.length_cons, List.length_cons, t.length]
def putFD (f : Str) (d : D) : List (Str × D) → List (Str × D)
  | [] => [(f, d)]
  | (k, x) :: r => if k = f then (k, d) :: r else (k, x) :: putFD f d r
theorem RpF.put {F : Hp} {f : Str} {v : V} {d : D} (r : Rp K F v d) : ∀ {vs : List (Str × V)} {fs : List (Str × D)}, RpF K F vs fs → RpF K F (putF f v vs) (putFD f d fs)
  | _, _, .nil => .cons r .nil
  | _, _, .cons (k := k) h t => by
    unfold putF putFD
    by_cases e : k = f
    · rw [if_pos e, if_pos e]; exact .cons r t
    · rw [if_neg e, if_neg e]; exact .cons h (RpF.put r t)
/-- a class by its name -/
def ClsD (K : PySem.W.Frag) (n : Str) : Prop := ∃ C, PySem.W.nsIn K mainGlobals n = some (some (.ref C)) ∧ Cls K C
def NoAttrD (K : PySem.W.Frag) (n f : Str) : Prop := ∃ C, PySem.W.nsIn K mainGlobals n = some (some (.ref C)) ∧ NoAttr K C f
theorem nsC {n : Str} {C C' : Addr} (h : PySem.W.nsIn K mainGlobals n = some (some (.ref C))) (h' : PySem.W.nsIn K mainGlobals n = some (some (.ref C'))) : C = C' := by
  rw [h] at h'
  injection h' with h'
  injection h' with h'
  injection h' with h'
def fldM (n f : Str) (m : ME) : ME := fun e => (m e).bind fun p => (rdR p.2 p.1).bind fun d => (asO n d).bind fun fs => (fs.lookup f).map fun d => (.v d, p.2)
theorem sim_fld {n f : Str} {t : TE} {m : ME} (hc : ClsD K n) (hn : NoAttrD K n f) (h : SimE K t m) : SimE K (tFld K t f) (fldM n f m) := ⟨fun {F0 Gd ios F H σ e os l e' Q} W hm q => by
  unfold fldM at hm
  obtain ⟨⟨l1, e1⟩, h1, hm⟩ := Option.bind_eq_some_iff.mp hm
  obtain ⟨d, h2, hm⟩ := Option.bind_eq_some_iff.mp hm
  obtain ⟨fs, h3, hm⟩ := Option.bind_eq_some_iff.mp hm
  obtain ⟨r, h4, hm⟩ := Option.map_eq_some_iff.mp hm
  cases hm
  cases asO_iff h3
  obtain ⟨C, c1, c2⟩ := hc
  obtain ⟨C', d1, d2⟩ := hn
  cases nsC c1 d1
  refine h.run W h1 fun F1 H1 os1 x W1 s1 k1 => ?_
  obtain ⟨a, C2, dx, vs, rfl, n2, ha, hdx, rf⟩ := (W1.bwR k1 h2).isObj W1.fh
  cases nsC c1 n2
  obtain ⟨v, hv, rv⟩ := rf.look h4
  exact ⟨a, C, dx, vs, v, rfl, ha, c2, d2, hv, q F1 H1 os1 v W1 s1 rv⟩⟩
def setFM (k : Nat) (n f : Str) (m : ME) : MS := fun e => (m e).bind fun p => (tk p.2 p.1).bind fun q => (ownD q.2 k).bind fun c => (asO n c).bind fun fs => (okB (decide (fs.length < 1000))).bind fun _ => (wr q.2 k (.obj n (putFD f q.1 fs))).map fun e2 => (.nx, e2)
theorem sim_setF {k : Nat} {n f : Str} {t : TE} {m : ME} (hc : ClsD K n) (hn : NoAttrD K n f) (h : SimE K t m) : SimS K (sFld K (tVar k) t f) (setFM k n f m) := ⟨fun {F0 Gd ios F H σ e os fl e' G} W hm q => by
  unfold setFM at hm
  obtain ⟨⟨l1, e1⟩, h1, hm⟩ := Option.bind_eq_some_iff.mp hm
  obtain ⟨⟨d, e2⟩, h2, hm⟩ := Option.bind_eq_some_iff.mp hm
  obtain ⟨c, h3, hm⟩ := Option.bind_eq_some_iff.mp hm
  obtain ⟨fs, h4, hm⟩ := Option.bind_eq_some_iff.mp hm
  obtain ⟨u, h5, hm⟩ := Option.bind_eq_some_iff.mp hm
  obtain ⟨e3, hw, hm⟩ := Option.map_eq_some_iff.mp hm
  cases hm
  cases asO_iff h4
  obtain ⟨C, c1, c2⟩ := hc
  obtain ⟨C', d1, d2⟩ := hn
  cases nsC c1 d1
  refine h.run W h1 fun F1 H1 os1 y W1 s1 k1 => ?_
  obtain ⟨F2, os2, W2, s2, r⟩ := W1.take k1 h2
  obtain ⟨p, hp, hv, ob⟩ := W2.at_ h3
  obtain ⟨n0, o, ho, C2, dx, vs, rfl, n2, hdx, rf⟩ := ob
  cases nsC c1 n2
  refine ⟨.ref p, hv, p, C, dx, vs, rfl, ho, c2, d2, by rw [rf.length]; exact of_decide_eq_true (okB_iff h5), ?_⟩
  have ob3 : Ob K F2 (upd H1 p (.ins C dx (putF f y vs))) p (.obj n (putFD f d fs)) := ⟨n0, _, upd_same, C, dx, _, rfl, c1, hdx, rf.put r⟩
  exact q F2 _ σ os2 (W2.write hp ob3 hw) (s1.trans s2)⟩
def tMakeD (K : PySem.W.Frag) (C : Addr) (m : MS) (t : TA) : TE := fun σ H Q => t σ H fun vs H1 => ∀ x dx, H1 x = none → H1 dx = none → dx ≠ x → spD K m (.ref x :: vs) (upd (upd H1 dx (.own x)) x (.ins C dx [])) (fun v H2 => v = .non ∧ Q (.ref x) H2)
def makM (n : Str) (m : MS) (ma : MA) : ME := fun e => (ma e).bind fun p => (tks p.2 p.1).bind fun q => (m (.io (.obj n []) :: q.1.map .fz)).bind fun r => (resV r.1).bind fun v => (match v with | .non => some () | _ => none).bind fun _ => (ioOf r.2).map fun d => (.v d, q.2)
theorem sim_make {n : Str} {C : Addr} {m : MS} {t : TA} {ma : MA} (hC : PySem.W.nsIn K mainGlobals n = some (some (.ref C))) (ha : SimA K t ma) : SimE K (tMakeD K C m t) (makM n m ma) := ⟨fun {F0 Gd ios F H σ e os l e' Q} W hm q => by
  unfold makM at hm
  obtain ⟨⟨ls, e1⟩, h1, hm⟩ := Option.bind_eq_some_iff.mp hm
  obtain ⟨⟨ds, e2⟩, h2, hm⟩ := Option.bind_eq_some_iff.mp hm
  obtain ⟨⟨fl, a'⟩, h3, hm⟩ := Option.bind_eq_some_iff.mp hm
  obtain ⟨v, h4, hm⟩ := Option.bind_eq_some_iff.mp hm
  obtain ⟨_, h5, hm⟩ := Option.bind_eq_some_iff.mp hm
  obtain ⟨d, h6, hm⟩ := Option.map_eq_some_iff.mp hm
  cases hm
  have ev : v = .non := by
    cases v <;> first | rfl | cases h5
  subst ev
  refine ha.run W h1 fun F1 H1 os1 xs W1 s1 k1 => ?_
  obtain ⟨F2, os2, W2, s2, r⟩ := W1.takes k1 h2
  intro x dx nx ndx ne
  have fx : F2 x = none := W2.fh.free nx
  have fdx : F2 dx = none := W2.fh.free ndx
  have sF : Sm F2 (upd F2 dx (.own x)) := .of (Same.new fdx)
  have fh3 : Same (upd F2 dx (.own x)) (upd (upd H1 dx (.own x)) x (.ins C dx [])) := (same_upd2 W2.fh).trans (Same.new (by rw [upd_ne ne.symm]; exact nx))
  have fx3 : (upd F2 dx (.own x)) x = none := by rw [upd_ne ne.symm]; exact fx
  have tp3 : Tp (upd F2 dx (.own x)) (upd (upd H1 dx (.own x)) x (.ins C dx [])) := by
    have t1 : Tp F2 (upd H1 dx (.own x)) := W2.tp.lay (fun _ z => nomatch z) (.new ndx)
    have t2 : Tp F2 (upd (upd H1 dx (.own x)) x (.ins C dx [])) := t1.lay (fun _ z => nomatch z) (.new (by rw [upd_ne ne.symm]; exact nx))
    exact t2.frz fdx
  have ob : Ob K (upd F2 dx (.own x)) (upd (upd H1 dx (.own x)) x (.ins C dx [])) x (.obj n []) := ⟨fx3, _, upd_same, C, dx, [], rfl, hC, upd_same, .nil⟩
  refine ⟨upd F2 dx (.own x), _, _, fl, a', args_io fh3 tp3 (r.mono sF) ob, h3, fun F' H' sf fh g o tp => ?_⟩
  have keep : ∀ b u, H1 b = some u → F2 b = none → (∀ ps, u ≠ .tbl ps) → H' b = some u ∧ F' b = none := fun b u hb hn hk => by
    have bx : b ≠ x := ne_of_none hb nx
    have bd : b ≠ dx := ne_of_none hb ndx
    refine g b u (by rw [upd_ne bx, upd_ne bd]; exact hb) (by rw [upd_ne bd]; exact hn) hk fun i z => ?_
    cases i with
    | zero => cases z; exact bx rfl
    | succ i => exact noneOs b i z
  have xt : Ext F2 H1 F' H' := ext_of W2.fh (sF.trans sf) fh keep tp
  have W3 := W2.ext xt
  obtain ⟨d', i1, ob'⟩ := o 0 x rfl
  have ed : d' = d := by
    unfold ioOf at h6
    rw [i1] at h6
    cases h6; rfl
  subst ed
  obtain ⟨F4, W4, s4, r4⟩ := Nw.freeze ⟨ob', W2.noGd nx, W2.notOwn nx⟩ W3
  have fin : Q (.ref x) H' := q F4 H' os2 _ W4 (((s1.trans s2).trans xt.f).trans s4) r4
  cases fl with
  | nx => exact ⟨rfl, fin⟩
  | rt c => cases h4; exact fun y ry => by cases ry; exact ⟨rfl, fin⟩
  | rn c => cases h4; exact fun p _ ob => ob.2.elim
  | bk => cases h4
  | ct => cases h4⟩
section
variable {X : Cx} {o e : Expr} {es : List Expr} {pos apos : Pos} {k : Nat} {n f : Str} {m mo : ME} {mr : MA} {ps : List Str} {fm : MS}
theorem d_fld (hc : ClsD X.K n) (hn : NoAttrD X.K n f) (he : PE X e (rE X.K m)) (hb : attributeBase e f X.env (eval e X.env) = eval e X.env := by rfl) : PE X (.Attribute e f pos) (rE X.K (fldM n f m)) := toE (pe_fld he hb) (sim_fld hc hn sim_rE)
theorem s_setF (i : Nat) {x : Str} {p p2 : Pos} (hc : ClsD X.K n) (hn : NoAttrD X.K n f) (he : PE X e (rE X.K m)) (hN : X.N[i]? = some x := by rfl) (hv : Vis X.env.scope x := by first | exact Or.inl rfl | exact Or.inr (Or.inl rfl) | exact Or.inr (Or.inr rfl)) (hd : (x == ("__debug__" : Str)) = false := by decide)
    (hcd : (x == ("__classdict__" : Str)) = false := by decide) (hs : swapsWith e (some (.Attribute (.Name x p) f p2)) pos.line X.env = pure false := by rfl) :
    PS X (.Assign [.Attribute (.Name x p) f p2] e pos) (rS X.K (setFM i n f m)) := toS (ps_fld (pe_var hN hv hd hcd) he hs) (sim_setF hc hn sim_rE)
end
end Dk
set_option exponentiation.threshold 256
namespace Dk
open PySem PySem.Spec PyProof.Rows L2
variable [TabP]
variable {K : PySem.W.Frag}
/-- a def's meaning at arguments that are taken -/
theorem WOk.fm {F0 Gd F H : Hp} {ios os : List (Option Addr)} {σ : L2.St} {e e2 : Env} {xs : List V} {ls : List L} {ds : List D} {fm : MS} {fl : Fl} {a' : Env} {d : D} {Q : VK} (W : WOk K F0 Gd ios F H σ e os) (k : LsOk K F σ xs ls) (h5 : tks e ls = some (ds, e2)) (h6 : fm (ds.map .fz) = some (fl, a')) (h7 : resV fl = some d)
    (q : ∀ F' H' os' y, WOk K F0 Gd ios F' H' σ e2 os' → Sm F F' → Rp K F' y d → Q y H') : spD K fm xs H Q := by
  obtain ⟨F3, os3, W3, s3, r⟩ := W.takes k h5
  refine ⟨F3, _, _, fl, a', args_pure W3.fh W3.tp r, h6, fun F' H' sf fh g _ tp => ?_⟩
  have x := ext_of W3.fh sf fh (fun c o h n k => g c o h n k (noneOs c)) tp
  have W4 := W3.ext x
  have s4 := s3.trans sf
  cases fl with
  | nx => cases h7; exact q F' H' os3 _ W4 s4 Rp.non
  | rt c => cases h7; exact fun y ry => q F' H' os3 y W4 s4 ry
  | rn c =>
    cases h7
    intro p n ob
    obtain ⟨F5, W5, s5, r5⟩ := Nw.freeze ⟨ob, W3.noGd n, W3.notOwn n⟩ W4
    exact q F5 H' os3 _ W5 (s4.trans s5) r5
  | bk => cases h7
  | ct => cases h7
section
variable {X : Cx} {C f : Addr} {k : Nat} {fd : FuncData} {ps : List Str} {fm : MS}
/-- an own one-place special method -/
def rOwn1 (K : PySem.W.Frag) (C : Addr) (fm : MS) : V → Hp → VK → Prop := fun x H Q => ∃ a dx fs, x = .ref a ∧ H a = some (.ins C dx fs) ∧ spD K fm [x] H Q
end
def own1M (n : Str) (fm : MS) (ma : ME) : ME := fun e => (ma e).bind fun p => (rdR p.2 p.1).bind fun a => (asO n a).bind fun _ => (tks p.2 [p.1]).bind fun z => (fm (z.1.map .fz)).bind fun r => (resV r.1).map fun d => (.v d, z.2)
theorem sim_own1 {n : Str} {C : Addr} {fm : MS} {ta : TE} {ma : ME} (hC : PySem.W.nsIn K mainGlobals n = some (some (.ref C))) (ha : SimE K ta ma) : SimE K (tUn (rOwn1 K C fm) ta) (own1M n fm ma) := ⟨fun {F0 Gd ios F H σ e os l e' Q} W hm q => by
  unfold own1M at hm
  obtain ⟨⟨l0, e0⟩, h0, hm⟩ := Option.bind_eq_some_iff.mp hm
  obtain ⟨d0, h2, hm⟩ := Option.bind_eq_some_iff.mp hm
  obtain ⟨fs, h3, hm⟩ := Option.bind_eq_some_iff.mp hm
  obtain ⟨⟨ds, e2⟩, h6, hm⟩ := Option.bind_eq_some_iff.mp hm
  obtain ⟨⟨fl, a'⟩, h7, hm⟩ := Option.bind_eq_some_iff.mp hm
  obtain ⟨d, h8, hm⟩ := Option.map_eq_some_iff.mp hm
  cases hm
  cases asO_iff h3
  refine ha.run W h0 fun F1 H1 os1 x W1 s1 k1 => ?_
  have kk : LsOk K F1 σ [x] [l0] := .cons k1 .nil
  obtain ⟨a, C2, dx, vs, rfl, n2, ha1, hdx, rf⟩ := (W1.bwR k1 h2).isObj W1.fh
  cases nsC hC n2
  exact ⟨a, dx, vs, rfl, ha1, W1.fm kk h6 h7 h8 fun F' H' os' y W3 s3 r => q F' H' os' y W3 (s1.trans s3) r⟩⟩
/-- isinstance(x, an own class) -/
def KitFalse (K : PySem.W.Frag) (C : Addr) : Prop := ∀ T ∈ ["NoneType", "bool", "int", "str", "list", "tuple", "dict"], PySem.W.kitOne K (.type T) (.ref C) = some false
structure IsoAt (K : PySem.W.Frag) (C : Addr) : Prop where
  cl : Cls K C
  ha : PySem.W.findIn K (.ref C) "__class__" = some (some (.builtin "object.__class__"))
  hn : PySem.W.specialIn K (.builtin "object.__class__") "__get__" = some (some (.builtin "getset_descriptor.__get__"))
  ht : PySem.W.takesIn K (.builtin "object.__class__") = some true
  hm : PySem.W.mroIn K C (.type "object") = some true
  no : KitFalse K C
def IsoD (K : PySem.W.Frag) (mg : Str → Option Value) (n : Str) : Prop := ∃ C, PySem.W.nsIn K mainGlobals n = some (some (.ref C)) ∧ mg n = some (.ref C) ∧ IsoAt K C
def isoD (n : Str) : D → Option D
  | .obj k _ => if k = n then some (.bl true) else none
  | .cls _ => none
  | _ => some (.bl false)
theorem tyN_mem {d : D} (h : ¬ isOb d = true) : tyN d ∈ ["NoneType", "bool", "int", "str", "list", "tuple", "dict"] := by
  cases d <;> first | (exfalso; exact h rfl) | (simp [tyN])
theorem sim_iso {n : Str} {C : Addr} {ta : TE} {ma : ME} (hC : PySem.W.nsIn K mainGlobals n = some (some (.ref C))) (J : IsoAt K C) (ha : SimE K ta ma) : SimE K (tCB (rIsiY K) (tCons ta (tCons (tC (.ref C)) tNil))) (unM (isoD n) ma) := ⟨fun {F0 Gd ios F H σ e os l e' Q} W hm q => by
  unfold unM at hm
  obtain ⟨⟨l1, e1⟩, h1, hm⟩ := Option.bind_eq_some_iff.mp hm
  obtain ⟨a, ra, hm⟩ := Option.bind_eq_some_iff.mp hm
  obtain ⟨d, hd, hm⟩ := Option.map_eq_some_iff.mp hm
  cases hm
  refine ha.run W h1 fun F1 H1 os1 x W1 s1 k1 => ?_
  by_cases no : isOb a = true
  · obtain ⟨k, fs, rfl⟩ : ∃ k fs, a = .obj k fs := by
      cases a <;> first | exact ⟨_, _, rfl⟩ | (cases no; done) | (cases hd; done)
    unfold isoD at hd
    simp only at hd
    split at hd
    · rename_i ek
      cases hd
      subst ek
      obtain ⟨p, C2, dx, vs, rfl, n2, hp, hdx, rf⟩ := (W1.bw k1 ra).isObj W1.fh
      cases nsC hC n2
      exact ⟨_, .ref C, _, .ref C, true, rfl, .own C, .x <| .base (.ins hp J.cl J.ha J.hn J.ht J.hm), by unfold PySem.W.kitOne; rw [if_pos (by simp)], q F1 H1 os1 _ W1 s1 (Rp.bl true)⟩
    · cases hd
  · have e : d = .bl false := by
      cases a <;> first | (exfalso; exact no rfl) | (cases hd; rfl)
    subst e
    exact ⟨x, .ref C, _, .ref C, false, rfl, .own C, (W1.bw k1 ra).tyX W1.fh no, J.no _ (tyN_mem no), q F1 H1 os1 _ W1 s1 (Rp.bl false)⟩⟩
def MethAtK (K : PySem.W.Frag) (n m qual : Str) (st : Stmt) (kws : List (Str × V)) : Prop := ∃ C f fd, PySem.W.nsIn K mainGlobals n = some (some (.ref C)) ∧ Cls K C ∧ Meth K C m f ∧ FunD K m qual (defArgs st) (defBody st) (defScope st) [] kws f fd
def HasMK (P : Program) (w : World) (K : PySem.W.Frag) (mg : Str → Option Value) (base : Heap) (n m : Str) (k : Nat) (ps : List Str) (j : Nat) (ks : List Str) (dvs : List V) (fm : MS) : Prop :=
  ∃ C f fd, PySem.W.nsIn K mainGlobals n = some (some (.ref C)) ∧ Cls K C ∧ Meth K C m f ∧ FnD P w K mg base k f fd ps fm ∧ KwB K fd ps j ks dvs
theorem hasMk {P : Program} {w : World} {mg : Str → Option Value} {base : Heap} {n x qual : Str} {st : Stmt} {N ps : List Str} {k a j nn : Nat} {kws : List (Str × V)} {m : MS} (At : MethAtK K n x qual st kws) (S : FnScope N ps (defScope st)) (ha : ps.length = a) (hn : N.length - ps.length = j) (hk : kws ≠ []) (hl : nn + kws.length = ps.length)
    (h0 : ∀ (D : Addr) (doc pm : Value) (an : Option Addr) (cdv ct : Value) (us ks : List Value), us.length = nn → ks.length = kws.length →
      KwChain D ((kws.map (·.1)).zip ks) (bindArgs (PySem.W.fnOf x qual (defArgs st) (defBody st) (defScope st) .none (.ref D) doc pm an cdv ct) ⟨us, []⟩) (ps.zip (us ++ ks)))
    (h1 : ∀ (kV doc pm : Value) (an : Option Addr) (cdv ct : Value) (us ws : List Value), us.length = nn → ws.length = kws.length → bindArgs (PySem.W.fnOf x qual (defArgs st) (defBody st) (defScope st) .none kV doc pm an cdv ct) ⟨us, (kws.map (·.1)).zip ws⟩ = pure (ps.zip (us ++ ws)))
    (hb : ∀ (f : Addr) (cdv : Value) (A : Around) (outer : List PySem.Env) (s : Shared) (H : Hp), Room k (A.deeper (envOfC qual (defScope st) s.heap.objs.size f cdv)) → (A.deeper (envOfC qual (defScope st) s.heap.objs.size f cdv)).guards = some [] →
      PSs (cxOf CX0 P w K mg base N qual (defScope st) f cdv A outer s H E0).nox (defBody st) (rS K m)) : HasMK P w K mg base n x (k + 1) ps nn (kws.map (·.1)) (kws.map (·.2)) (fnM a j m) := by
  obtain ⟨C, f, fd, c1, c2, c3, Fu⟩ := At
  refine ⟨C, f, fd, c1, c2, c3, fnDk Fu S ha hn (hb f), Fu.binds0 nn hk hl h0, ?_, by rw [List.length_map]; exact hl.symm⟩
  obtain ⟨oc, od, dV, kV, doc, pm, an, cdv, ct, osl, rfl, lk, hcd, hD, hK⟩ := Fu.ex
  rcases hD with ⟨_, rfl⟩ | ⟨e, _⟩
  · exact fun s us ws l1 l2 => .of_eq (h1 kV doc pm an cdv ct us ws l1 (by rw [l2, List.length_map]))
  · exact absurd rfl e
section
variable {X : Cx} {C f : Addr} {k j : Nat} {fd : FuncData} {ps ks : List Str} {m : MS} {dvs : List V}
theorem run_makeDK {pins : List (Addr × Obj)} {σ : L2.St} {H : Hp} {s : Shared} {Q : VK} {us ws : List Value} {vs zs : List V} (M : Mk X.K C f) (F : FnD X.prog X.w X.K X.mg X.base k f fd ps m) (hr : Room (k + 1) X.A) (hgd : X.A.guards = some []) (hb : KwB X.K fd ps (j + 1) ks dvs)
    (I : Inv X pins σ H s) (r : Vals vs us) (rz : Vals zs ws) (hl : vs.length = j)
    (h : ∀ x dx, H x = none → H dx = none → dx ≠ x → spD X.K m (.ref x :: (vs ++ zs)) (upd (upd H dx (.own x)) x (.ins C dx [])) (fun v H2 => v = .non ∧ Q (.ref x) H2)) :
    wpAny (model X.prog X.w) X.A (call (.ref C) us (ks.zip ws)) (EP X pins σ Q) X.xe s := by
  have hq := h (s.heap.objs.size + 1) s.heap.objs.size (I.hok.fresh (Nat.le_succ _)) (I.hok.fresh (Nat.le_refl _)) (Nat.ne_of_lt (Nat.lt_succ_self _))
  have I2 := Inv.made (C := C) I
  have r2 : Vals (V.ref (s.heap.objs.size + 1) :: (vs ++ zs)) ((Value.ref (s.heap.objs.size + 1) :: us) ++ ws) := .cons rfl (r.append rz)
  have el := F.len _ _ _ hq
  have n1 : (Value.ref (s.heap.objs.size + 1) :: us).length = j + 1 := by rw [List.length_cons, ← r.length, hl]
  have n2 : ws.length = ks.length := by
    rw [hb.len] at el
    rw [List.length_cons, List.length_append, hl, rz.length] at el
    omega
  have bd := hb.full { s with heap := s.heap } (Value.ref (s.heap.objs.size + 1) :: us) ws n1 n2
  refine wpAny_call (make_map (f := f) I.kIn M.makes M.init (beq_iff_eq.mp M.fn) (codeAny_mono (F.run _ X.stack _ _ ⟨Value.ref (s.heap.objs.size + 1) :: us, ks.zip ws⟩ ((Value.ref (s.heap.objs.size + 1) :: us) ++ ws) _ _ (hr.make C us (ks.zip ws)) hgd
    (I2.env0.make C us (ks.zip ws)) (hb.full _ _ ws n1 n2) r2 hq) fun r s' hq' => ?_))
  cases r with
  | error e => exact False.elim hq'
  | ok fl =>
    cases fl with
    | ret u =>
      obtain ⟨v, H', I3, rv, ev, q3⟩ := I2.after hq'
      subst ev
      exact ⟨rv, ⟨V.ref (s.heap.objs.size + 1), H', I3, rfl, q3⟩⟩
    | next => exact False.elim hq'
    | brk => exact False.elim hq'
    | cont => exact False.elim hq'
end
def MakeAt (K : PySem.W.Frag) (mg : Str → Option Value) (n : Str) : Prop := ∃ C, PySem.W.nsIn K mainGlobals n = some (some (.ref C)) ∧ mg n = some (.ref C) ∧ PySem.W.makesIn K C = true ∧ PySem.W.keepIn K (.ref C) = true
section
variable {X : Cx} {a b o e : Expr} {es : List Expr} {pos apos : Pos} {k j : Nat} {n f : Str} {m ma mb mo : ME} {mr mk : MA} {ps ks : List Str} {fm : MS} {kws : List Keyword} {dvs : List V}
theorem d_iso {x : Str} {p p2 : Pos} (hm : X.mg "isinstance" = none) (J : IsoD X.K X.mg x) (ha : PE X a (rE X.K ma)) (hg : Gl X "isinstance" := by rfl) (hg2 : Gl X x := by rfl) (hdb : (x == ("__debug__" : Str)) = false := by decide) (he : starEach [a, .Name x p2] X.env = (false, eval a X.env) :: starEach [.Name x p2] X.env := by rfl) (he2 : starEach [.Name x p2] X.env = (false, eval (.Name x p2) X.env) :: starEach [] X.env := by rfl) (hpl : (backTo pos (starEach [.Name x p2] X.env)).any (·.1) = false := by rfl) :
    PE X (.Call (.Name "isinstance" p) [a, .Name x p2] [] pos) (rE X.K (unM (isoD x) ma)) := by
  obtain ⟨C, c1, c2, c3⟩ := J
  exact toE (pe_callB call_isiY hg hm (by decide +kernel) (pa_cons ha (pa_cons (pe_glob hg2 c2 (v := .ref C) rfl hdb) pa_nil he2) he) (by decide) (by decide) he hpl) (sim_iso c1 c3 sim_rE)
theorem d_makeK {x : Str} {p : Pos} (F : HasMK X.prog X.w X.K X.mg X.base x "__init__" k ps (j + 1) ks dvs fm) (hmk : MakeAt X.K X.mg x) (hr : Room (k + 1) X.A) (hgd : X.A.guards = some []) (ha : PA X (e :: es) (rA X.K mr)) (hkw : PK X kws (rA X.K mk)) (hl : ∀ e ls e', mr e = some (ls, e') → ls.length = j) (hg : Gl X x := by rfl)
    (hall : (backToKw pos (keywordEach kws X.env)).all (·.1.isSome) = true := by rfl) (hks : (backToKw pos (keywordEach kws X.env)).filterMap (·.1) = ks := by rfl)
    (hdb : (x == ("__debug__" : Str)) = false := by decide) (he : starEach (e :: es) X.env = (false, eval e X.env) :: starEach es X.env := by rfl)
    (hpl : ((backTo pos (starEach (e :: es) X.env)).any (·.1) || (backToKw pos (keywordEach kws X.env)).any (·.1.isNone)) = false := by rfl) :
    PE X (.Call (.Name x p) (e :: es) kws pos) (rE X.K (makM x fm (apA mr mk))) := by
  obtain ⟨C, f, fd, h1, h2, h3, F, hb⟩ := F
  obtain ⟨C', c1, c2, c3, c4⟩ := hmk
  cases nsC h1 c1
  have M : Mk X.K C f := ⟨c3, h3.at_, h3.fn, c4⟩
  refine toE (t := tMakeD X.K C fm (tAp (rA X.K mr) (rA X.K mk))) ⟨fun pins s σ H Q I h => ?_⟩ (sim_make h1 (sim_ap sim_rA sim_rA))
  refine wpAny_Call_Name_kw (ld_glob I hg c2 ?_ hdb)
  refine PySem.W.callWith_KW (h₀ := X.base) I.ok.mod.kin M.kp hall (thn (ha.run pos pins s σ H _ I (rA_len hl h)) fun us s1 ⟨vs, H1, I1, r, hl1, q⟩ => ?_) hpl he
  refine thn (hkw.run pos pins s1 σ H1 _ I1 q) fun ws s2 ⟨zs, H2, I2, rz, q2⟩ => ⟨I2.kIn, ?_⟩
  rw [hks]
  exact run_makeDK M F hr hgd hb I2 r rz hl1 q2
end
end Dk
set_option exponentiation.threshold 256
namespace Dk
open PySem PySem.Spec PyProof.Rows L2
variable [TabP]
variable {K : PySem.W.Frag}
def sumD : List D → Option D
  | [.lst ds] => (intsD ds).map fun ns => .int ns.sum
  | _ => none
theorem opA_sum : OpA K (rSum K) sumD := fun {F H xs ds d Q} s b hd q => by
  unfold sumD at hd
  split at hd
  · rename_i ds
    obtain ⟨ns, h1, h2⟩ := Option.map_eq_some_iff.mp hd
    cases h2
    cases b with
    | cons b1 b2 =>
      cases b2
      obtain ⟨a, vs, rfl, ha, r⟩ := b1.isLst s
      rw [intsD_iff h1] at r
      rw [r.ofInts] at ha
      exact ⟨a, ns, rfl, .inl (.inl ha), q F H _ (Ext.refl s) (.int _)⟩
  · cases hd
def strsD : List D → Option (List Str)
  | [] => some []
  | .str i :: r => (strsD r).map fun l => i :: l
  | _ => none
theorem strsD_iff : ∀ {ds : List D} {ns : List Str}, strsD ds = some ns → ds = ns.map D.str
  | [], _, h => by cases h; rfl
  | .str i :: r, _, h => by
    obtain ⟨l, h1, h⟩ := Option.map_eq_some_iff.mp h
    cases h
    rw [strsD_iff h1]; rfl
  | .non :: _, _, h => nomatch h
  | .bl _ :: _, _, h => nomatch h
  | .int _ :: _, _, h => nomatch h
  | .lst _ :: _, _, h => nomatch h
  | .tup _ :: _, _, h => nomatch h
  | .dic _ :: _, _, h => nomatch h
  | .scr _ :: _, _, h => nomatch h
  | .gup _ :: _, _, h => nomatch h
  | .hup _ :: _, _, h => nomatch h
  | .dit _ :: _, _, h => nomatch h
  | .obj _ _ :: _, _, h => nomatch h
  | .cls _ :: _, _, h => nomatch h
def joinD : D → D → Option D
  | .str a, .lst ds => (strsD ds).bind fun ys => if (ys.map (·.length)).sum + ys.length * a.length ≤ 16777216 then some (.str (Txt.join a ys)) else none
  | .str a, .tup ds => (strsD ds).bind fun ys => if (ys.map (·.length)).sum + ys.length * a.length ≤ 16777216 then some (.str (Txt.join a ys)) else none
  | _, _ => none
def joinM (ma mb : ME) : ME := fun e => (ma e).bind fun p => (rd p.2 p.1).bind fun a => (match a with | .str _ => some () | _ => none).bind fun _ => (mb p.2).bind fun q => (rd q.2 q.1).bind fun b => (joinD a b).map fun d => (.v d, q.2)
theorem sim_join {ta tb : TE} {ma mb : ME} (ha : SimE K ta ma) (hb : SimE K tb mb) : SimE K (tM1 (fun x xs H Q => ∃ a p, ∃ ys : List Str, x = .str a ∧ xs = [.ref p] ∧ (SqL K H p (ys.map V.str) ∨ SqT K H p (ys.map V.str)) ∧
      (ys.map (·.length)).sum + ys.length * a.length ≤ 16777216 ∧ Q (.str (Txt.join a ys)) H) ta tb) (joinM ma mb) := ⟨fun {F0 Gd ios F H σ e os l e' Q} W hm q => by
  unfold joinM at hm
  obtain ⟨⟨l1, e1⟩, h1, hm⟩ := Option.bind_eq_some_iff.mp hm
  obtain ⟨a, ra, hm⟩ := Option.bind_eq_some_iff.mp hm
  obtain ⟨_, hs, hm⟩ := Option.bind_eq_some_iff.mp hm
  obtain ⟨⟨l2, e2⟩, h2, hm⟩ := Option.bind_eq_some_iff.mp hm
  obtain ⟨b, rb, hm⟩ := Option.bind_eq_some_iff.mp hm
  obtain ⟨d, hd, hm⟩ := Option.map_eq_some_iff.mp hm
  cases hm
  obtain ⟨x, rfl⟩ : ∃ x, a = .str x := by
    cases a <;> first | exact ⟨_, rfl⟩ | cases hs
  unfold joinD at hd
  split at hd
  · rename_i x2 ds ez
    cases ez
    obtain ⟨ys, hy, hd⟩ := Option.bind_eq_some_iff.mp hd
    split at hd
    · rename_i hz
      cases hd
      refine ha.run W h1 fun F1 H1 os1 u W1 s1 k1 => ?_
      cases (W1.bw k1 ra).isStr
      refine ⟨⟨_, rfl⟩, hb.run W1 h2 fun F2 H2 os2 w W2 s2 k2 => ?_⟩
      obtain ⟨p, vs, rfl, hp, r⟩ := (W2.bw k2 rb).isLst W2.fh
      rw [strsD_iff hy] at r
      rw [r.ofStrs] at hp
      exact ⟨_, p, ys, rfl, rfl, .inl (.inl (.inl hp)), hz, q F2 H2 os2 _ W2 (s1.trans s2) (Rp.str _)⟩
    · cases hd
  · rename_i x2 ds ez
    cases ez
    obtain ⟨ys, hy, hd⟩ := Option.bind_eq_some_iff.mp hd
    split at hd
    · rename_i hz
      cases hd
      refine ha.run W h1 fun F1 H1 os1 u W1 s1 k1 => ?_
      cases (W1.bw k1 ra).isStr
      refine ⟨⟨_, rfl⟩, hb.run W1 h2 fun F2 H2 os2 w W2 s2 k2 => ?_⟩
      obtain ⟨p, vs, rfl, hp, r, _⟩ := (W2.bw k2 rb).isTup W2.fh
      rw [strsD_iff hy] at r
      rw [r.ofStrs] at hp
      exact ⟨_, p, ys, rfl, rfl, .inr hp, hz, q F2 H2 os2 _ W2 (s1.trans s2) (Rp.str _)⟩
    · cases hd
  · cases hd⟩
end Dk
set_option exponentiation.threshold 256
namespace Dk
open PySem PySem.Spec PyProof.Rows L2
variable [TabP]
variable {K : PySem.W.Frag}
def flatT : List (TE × TE) → TA
  | [] => tNil
  | (a, b) :: r => tCons a (tCons b (flatT r))
def unflat {α : Type} : List α → List (α × α)
  | a :: b :: r => (a, b) :: unflat r
  | _ => []
theorem tPairs_eq : ∀ (trs : List (TE × TE)) (σ : L2.St) (H : Hp) (Q : List (V × V) → Hp → Prop), tPairs trs σ H Q = flatT trs σ H fun vs H1 => Q (unflat vs) H1
  | [], _, _, _ => rfl
  | (a, b) :: r, σ, H, Q => by
    show (a σ H fun x H1 => b σ H1 fun y H2 => tPairs r σ H2 fun ps H3 => Q ((x, y) :: ps) H3) = _
    have e : (fun x H1 => b σ H1 fun y H2 => tPairs r σ H2 fun ps H3 => Q ((x, y) :: ps) H3) = fun x H1 => b σ H1 fun y H2 => flatT r σ H2 fun vs H3 => Q ((x, y) :: unflat vs) H3 := by
      funext x H1
      have e2 : (fun y H2 => tPairs r σ H2 fun ps H3 => Q ((x, y) :: ps) H3) = fun y H2 => flatT r σ H2 fun vs H3 => Q ((x, y) :: unflat vs) H3 := by
        funext y H2
        exact tPairs_eq r σ H2 _
      rw [e2]
    rw [e]
    rfl
def flatM : List (ME × ME) → MA
  | [] => nilA
  | (a, b) :: r => consA a (consA b (flatM r))
theorem sim_flat : ∀ ms : List (ME × ME), SimA K (flatT (ms.map fun p => (rE K p.1, rE K p.2))) (flatM ms)
  | [] => sim_nil
  | (_, _) :: r => sim_cons sim_rE (sim_cons sim_rE (sim_flat r))
def pairK : List D → Option (List (Key × D))
  | [] => some []
  | k :: d :: r => (keyD k).bind fun k => (pairK r).map fun l => (k, d) :: l
  | _ => none
theorem pairK_rp {F : Hp} : ∀ {ds : List D} {vs : List V} {es : List (Key × D)}, RpL K F vs ds → pairK ds = some es → ∃ kvs : List (Key × V), unflat vs = kvs.map (fun kv => (kV kv.1, kv.2)) ∧ RpK K F kvs es
  | [], _, _, .nil, h => by cases h; exact ⟨[], rfl, .nil⟩
  | [_], _, _, _, h => nomatch h
  | k :: d :: r, _, _, .cons rk (.cons rd rr), h => by
    obtain ⟨k1, h1, h⟩ := Option.bind_eq_some_iff.mp h
    obtain ⟨l, h2, h⟩ := Option.map_eq_some_iff.mp h
    cases h
    obtain ⟨kvs, e1, e2⟩ := pairK_rp rr h2
    have ek := keyD_bw (H := F) (.inl rk) h1
    subst ek
    exact ⟨(k1, _) :: kvs, by show (_, _) :: unflat _ = _; rw [e1]; rfl, .cons rd e2⟩
theorem Nw.write {F0 Gd F H : Hp} {ios os : List (Option Addr)} {σ : L2.St} {e : Env} {p : Addr} {d d2 : D} {o : HO} (n : Nw K Gd F H os p d) (W : WOk K F0 Gd ios F H σ e os) (ob : Ob K F (upd H p o) p d2) : WOk K F0 Gd ios F (upd H p o) σ e os ∧ Nw K Gd F (upd H p o) os p d2 := by
  have kOb : ∀ b c (j : Nat), os[j]?.join = some b → Ob K F H b c → Ob K F (upd H p o) b c := fun b c j hj x =>
    x.keep (Sm.refl _) (upd_ne fun z => by subst z; exact n.no j (join_some hj)) x.1
  refine ⟨⟨fun b u h => ?_, W.f0, fun a u h => ?_, W.le, W.lo, fun j t h => ?_, W.ds, W.io, W.tp.lay (ob.noTup upd_same) n.ob.noTab, W.ng⟩, ob, n.gd, n.no⟩
  · rw [upd_ne (ne_of_none h n.ob.1)]; exact W.fh b u h
  · obtain ⟨h1, h2, h3⟩ := W.gd a u h
    exact ⟨by rw [upd_ne (ne_of_none h n.gd)]; exact h1, h2, h3⟩
  · have y := W.sl j t h
    cases t with
    | no => exact y
    | fn kf => obtain ⟨a1, b1, c, m, r⟩ := y; exact ⟨a1, b1, by rw [upd_ne fun y => (n.ob.noTab _ (by rw [← y]; exact c)).2 _ rfl]; exact c, m, r⟩
    | fz c => exact y
    | ow c => obtain ⟨b, a1, b1, ob⟩ := y; exact ⟨b, a1, b1, kOb b c j a1 ob⟩
    | io c => obtain ⟨b, a1, b1, ob⟩ := y; exact ⟨b, a1, b1, kOb b c j a1 ob⟩
def dispM (ms : List (ME × ME)) : MN := fun e => (flatM ms e).bind fun p => (tks p.2 p.1).bind fun q => (pairK q.1).bind fun es => (okB (decide (es.length ≤ 15))).map fun _ => (.dic (mergeD [] es), q.2)
theorem sim_disp (ms : List (ME × ME)) : SimN K (tDisp (ms.map fun p => (rE K p.1, rE K p.2))) (dispM ms) := ⟨fun {F0 Gd ios F H σ e os d e' Q} W hm q => by
  unfold dispM at hm
  obtain ⟨⟨ls, e1⟩, h1, hm⟩ := Option.bind_eq_some_iff.mp hm
  obtain ⟨⟨ds, e2⟩, h2, hm⟩ := Option.bind_eq_some_iff.mp hm
  obtain ⟨es, h3, hm⟩ := Option.bind_eq_some_iff.mp hm
  obtain ⟨_, h4, hm⟩ := Option.map_eq_some_iff.mp hm
  cases hm
  intro p hp
  rw [tPairs_eq]
  obtain ⟨W0, nw⟩ := W.lay (o := .dK []) (d := .dic []) hp ⟨W.fh.free hp, [], upd_same, .nil⟩
  obtain ⟨o, ho, Wg⟩ := nw.guard W0
  rw [upd_same] at ho
  cases ho
  refine (sim_flat ms).run Wg h1 fun F1 H1 os1 vs W1 s1 k1 => ?_
  obtain ⟨F2, os2, W2, s2, r⟩ := W1.takes k1 h2
  obtain ⟨kvs, ek, rk⟩ := pairK_rp r h3
  obtain ⟨W3, n3⟩ := nw.back upd_same W2 (s1.trans s2)
  obtain ⟨g1, g2, g3⟩ := W2.gd p _ upd_same
  refine ⟨g1, kvs, ek, by rw [rk.length]; exact of_decide_eq_true (okB_iff h4), ?_⟩
  have ob : Ob K F2 (upd H1 p (.dK (mergeK [] kvs))) p (.dic (mergeD [] es)) := ⟨g2, _, upd_same, rk.merge .nil⟩
  have x : WOk K F0 Gd ios F2 (upd H1 p (.dK (mergeK [] kvs))) σ e2 os2 ∧ Nw K Gd F2 (upd H1 p (.dK (mergeK [] kvs))) os2 p (.dic (mergeD [] es)) := n3.write W3 ob
  exact q F2 _ os2 p x.1 (s1.trans s2) x.2⟩
def nodK (es : List (Key × D)) : Bool := decide ((es.map (·.1)).Nodup)
def hitsX (f : D → D → Option Bool) (fs : List (Key × D)) : List (Key × D) → Option Bool
  | [] => some true
  | (k, d) :: r => match valD fs k with
    | none => some false
    | some y => (f d y).bind fun e => (hitsX f fs r).map fun b => e && b
def eqL (a b : D) : Option Bool := (shp a).bind fun p => (shp b).map fun q => PyData.eqv p q
def eqX : Nat → D → D → Option Bool
  | 0, _, _ => none
  | n + 1, a, b => match a, b with
    | .dic es, .dic fs => (okB (nodK es)).bind fun _ => if es.length = fs.length then hitsX (eqX n) fs es else some false
    | a, b => eqL a b
theorem eqX_inv {n : Nat} {a b : D} {r : Bool} (h : eqX n a b = some r) : ∃ m, n = m + 1 ∧ ((∃ es fs, a = .dic es ∧ b = .dic fs ∧ nodK es = true ∧ (if es.length = fs.length then hitsX (eqX m) fs es else some false) = some r) ∨ eqL a b = some r) := by
  cases n with
  | zero => cases h
  | succ m =>
    refine ⟨m, rfl, ?_⟩
    unfold eqX at h
    split at h
    · obtain ⟨_, h1, h2⟩ := Option.bind_eq_some_iff.mp h
      exact .inl ⟨_, _, rfl, rfl, okB_iff h1, h2⟩
    · exact .inr h
theorem valD_mem {es : List (Key × D)} (hn : (es.map (·.1)).Nodup) {k : Key} {d : D} (h : (k, d) ∈ es) : valD es k = some d := by
  induction es with
  | nil => cases h
  | cons p r ih =>
    rw [List.map_cons, List.nodup_cons] at hn
    unfold valD
    rcases List.mem_cons.mp h with rfl | h
    · rw [List.find?_cons_of_pos (by simp)]; rfl
    · have hp : p.1 ≠ k := fun z => hn.1 (by rw [z]; exact List.mem_map.mpr ⟨_, h, rfl⟩)
      rw [List.find?_cons_of_neg (by simpa using hp)]
      exact ih hn.2 h
theorem hits_true {f : D → D → Option Bool} {fs : List (Key × D)} : ∀ {es : List (Key × D)} {r : Bool}, (∀ k d, (k, d) ∈ es → ∃ y, valD fs k = some y ∧ ∀ e, f d y = some e → e = true) → hitsX f fs es = some r → r = true
  | [], _, _, h => by cases h; rfl
  | (k, d) :: t, r, hp, h => by
    unfold hitsX at h
    obtain ⟨y, hy, hf⟩ := hp k d List.mem_cons_self
    rw [hy] at h
    obtain ⟨e, h1, h⟩ := Option.bind_eq_some_iff.mp h
    obtain ⟨b, h2, h⟩ := Option.map_eq_some_iff.mp h
    cases h
    rw [hf e h1, hits_true (fun k d m => hp k d (List.mem_cons_of_mem _ m)) h2]; rfl
section
variable {X : Cx} {pins : List (Addr × Obj)} {σ : L2.St} {F H : Hp} {s : Shared}
theorem eqL_reads (I : Inv X pins σ H s) {x y : V} {v u : Value} {a b : D} {r : Bool} (rx : RelV x v) (ry : RelV y u) (ba : ∀ p, toPy a = some p → Dp X.K H x p) (bb : ∀ p, toPy b = some p → Dp X.K H y p) (h : eqL a b = some r) :
    ∃ p q as bs, Reads s.heap v p as ∧ Reads s.heap u q bs ∧ SeqAt.shaped p = true ∧ SeqAt.shaped q = true ∧ r = PyData.eqv p q := by
  unfold eqL at h
  obtain ⟨p, h1, h⟩ := Option.bind_eq_some_iff.mp h
  obtain ⟨q, h2, h⟩ := Option.map_eq_some_iff.mp h
  cases h
  obtain ⟨e1, s1⟩ := shp_iff h1
  obtain ⟨e2, s2⟩ := shp_iff h2
  obtain ⟨as, r1⟩ := Dp.reads I p x v (ba p e1) rx
  obtain ⟨bs, r2⟩ := Dp.reads I q y u (bb q e2) ry
  exact ⟨p, q, as, bs, r1, r2, s1, s2, rfl⟩
theorem eqX_same (I : Inv X pins σ H s) (sf : Same F H) : ∀ (n : Nat) {x : V} {u : Value} {a b : D} {r : Bool}, RelV x u → Rp X.K F x a → Rp X.K F x b → eqX n a b = some r → r = true
  | n, x, u, a, b, r, rx, ra, rb, h => by
    obtain ⟨m, rfl, h | h⟩ := eqX_inv h
    · obtain ⟨es, fs, rfl, rfl, hn, h⟩ := h
      cases ra with
      | dic ha ka =>
        cases rb with
        | dic hb kb =>
          cases rd_inj ha hb
          rw [if_pos (by rw [← ka.length, ← kb.length])] at h
          obtain ⟨_, hd, vs, kv, dd⟩ := dk_rd I.hok ((Sm.of sf).rd ha)
          refine hits_true (fun k d hm => ?_) h
          obtain ⟨v, hv, rv⟩ := (RpK.val (k := k) ka).2 d (valD_mem (of_decide_eq_true hn) hm)
          have hs := (RpK.val (k := k) kb).1
          rw [hv] at hs
          obtain ⟨y, hy⟩ := Option.isSome_iff_exists.mp hs.symm
          obtain ⟨v2, hv2, rv2⟩ := (RpK.val (k := k) kb).2 y hy
          rw [hv] at hv2
          cases hv2
          refine ⟨y, hy, fun e he => ?_⟩
          have rr : RelO (some v) (valueAt vs k) := by rw [← hv]; exact kv.val k
          obtain ⟨uu, _, ru⟩ := rr.some_of
          exact eqX_same I sf m ru rv rv2 he
    · obtain ⟨p, q, as, bs, r1, r2, s1, s2, rfl⟩ := eqL_reads I rx rx (fun p e => ra.dp sf e) (fun p e => rb.dp sf e) h
      have e := SeqAt.Reads.unique p q u as bs (SeqAt.canLay_of_shaped s1) r1 r2
      subst e
      exact SeqAt.eqv_refl p (SeqAt.canLay_of_shaped s1)
theorem hitsX_run {P : Program} {w : World} {A : Around} {f : D → D → Option Bool} (ih : ∀ {x y : V} {v u : Value} {a b : D} {r : Bool}, RelV x v → RelV y u → Rp X.K F x a → Rp X.K F y b → f a b = some r → SeqAt.EqP P w A s v u r)
    {ls : List (Key × V)} {vb : List (Key × Value)} {fs : List (Key × D)} (rb : KV ls vb) (kb : RpK X.K F ls fs) : ∀ {ks : List (Key × V)} {va : List (Key × Value)} {es : List (Key × D)} {r : Bool}, RpK X.K F ks es → KV ks va → hitsX f fs es = some r → PySem.W.KeqHitsP P w A s vb va r
  | _, _, _, _, .nil, ra, h => by
    cases ra
    cases h
    exact .nil
  | _, _, _, _, .cons (k := k) rd rk, ra, h => by
    cases ra with
    | @cons p q ps qs h0 t =>
      obtain ⟨q1, q2⟩ := q
      obtain ⟨e1, e2⟩ := h0
      have e1 : k = q1 := e1
      subst e1
      unfold hitsX at h
      have hv := kb.val (k := k)
      have rr := rb.val k
      split at h
      · rename_i hn
        cases h
        have : valV ls k = none := by
          have := hv.1
          rw [hn] at this
          cases z : valV ls k with
          | none => rfl
          | some _ => rw [z] at this; cases this
        rw [this] at rr
        refine .miss ?_
        cases z : valueAt vb k with
        | none => rfl
        | some y => rw [z] at rr; exact nomatch rr
      · rename_i y hy
        obtain ⟨e, h1, h⟩ := Option.bind_eq_some_iff.mp h
        obtain ⟨b, h2, h⟩ := Option.map_eq_some_iff.mp h
        cases h
        obtain ⟨v, hv2, rv⟩ := hv.2 y hy
        rw [hv2] at rr
        obtain ⟨uu, hu, ru⟩ := rr.some_of
        exact .hit hu (ih e2 ru rd rv h1) (hitsX_run ih rb kb rk t h2)
theorem rcX_run (I : Inv X pins σ H s) (sf : Same F H) {A : Around} {m : Nat} (hu : A.units < cLine) (ih : ∀ {x y : V} {v u : Value} {a b : D} {r : Bool}, RelV x v → RelV y u → Rp X.K F x a → Rp X.K F y b → eqX m a b = some r → SeqAt.EqP X.prog X.w A.in1 s v u r)
    {a b : Addr} {ks ls : List (Key × V)} {es fs : List (Key × D)} {r : Bool} (ha : Rd H a (.dK ks)) (hb : Rd H b (.dK ls)) (ka : RpK X.K F ks es) (kb : RpK X.K F ls fs) (h : (if es.length = fs.length then hitsX (eqX m) fs es else some false) = some r)
    (E Q : Value → Shared → Prop) (q : Q (.bool r) s) : wpAny (model X.prog X.w) A (richCompare .Eq (.ref a) (.ref b)) Q E s := by
  obtain ⟨_, ya, va, ra, da⟩ := (show ObjOk X.prog X.w H s.heap a (.dK ks) from rd_of I.hok ha)
  obtain ⟨_, yb, vb, rb, db⟩ := (show ObjOk X.prog X.w H s.heap b (.dK ls) from rd_of I.hok hb)
  have e1 : va.length = es.length := by rw [← ra.length, ka.length]
  have e2 : vb.length = fs.length := by rw [← rb.length, kb.length]
  split at h
  · rename_i hl
    refine PySem.W.rcP_dicts (knd := mixKind X.prog X.w) (r := r) ya yb da db hu (fun _ => hitsX_run ih rb kb ka ra h) E Q ?_
    rw [show (va.length == vb.length && r) = r from by rw [e1, e2, hl]; simp]
    exact q
  · rename_i hl
    cases h
    refine PySem.W.rcP_dicts (knd := mixKind X.prog X.w) (r := true) ya yb da db hu (fun z => absurd (by rw [← e1, ← e2]; exact z) hl) E Q ?_
    rw [show (va.length == vb.length && true) = false from by rw [e1, e2]; simpa using hl]
    exact q
theorem eqX_run (I : Inv X pins σ H s) (sf : Same F H) : ∀ (n : Nat) (A : Around), A.units + n + 64 < cLine → ∀ {x y : V} {v u : Value} {a b : D} {r : Bool}, RelV x v → RelV y u → Rp X.K F x a → Rp X.K F y b → eqX n a b = some r → SeqAt.EqP X.prog X.w A s v u r
  | 0, _, _, _, _, _, _, _, _, _, _, _, _, _, h => nomatch h
  | n + 1, A, hu, x, y, v, u, a, b, r, rx, ry, ra, rb, h => by
    obtain ⟨m, em, hc⟩ := eqX_inv h
    cases em
    rcases hc with ⟨es, fs, rfl, rfl, hn, hc⟩ | hc
    · cases ra with
      | @dic p _ _ ha ka =>
        cases rb with
        | @dic q _ _ hb kb =>
          cases (show v = Value.ref p from rx)
          cases (show u = Value.ref q from ry)
          by_cases e : p = q
          · subst e
            have := eqX_same I sf (n + 1) (u := .ref p) (x := .ref p) rfl (.dic ha ka) (.dic hb kb) h
            subst this
            exact (SeqAt.EqAt.same _).eqP
          · exact SeqAt.eqP_refs e (rcX_run I sf (by omega) (fun rx ry ra rb h => eqX_run I sf n A.in1 (by show A.units + 1 + n + 64 < cLine; omega) rx ry ra rb h) ((Sm.of sf).rd ha) ((Sm.of sf).rd hb) ka kb hc)
    · obtain ⟨p, q, as, bs, r1, r2, s1, s2, rfl⟩ := eqL_reads I rx ry (fun p e => ra.dp sf e) (fun p e => rb.dp sf e) hc
      exact (SeqAt.eqAt_reads p q A s v u as bs r1 r2 (SeqAt.canLay_of_shaped s1) (SeqAt.canLay_of_shaped s2) (SeqAt.room_of_shaped s1 (by omega))).eqP
end
section
variable {X : Cx} {a b c e e2 o : Expr} {es : List Expr} {ma mb mc m mo : ME} {pos apos : Pos} {k : Nat}
theorem d_sum {mr : MA} {p : Pos} (hc : X.calm = true) (hm : X.mg "sum" = none) (ha : PA X (e :: es) (rA X.K mr)) (hg : Gl X "sum" := by rfl) (he : starEach (e :: es) X.env = (false, eval e X.env) :: starEach es X.env := by rfl) (hpl : (backTo pos (starEach es X.env)).any (·.1) = false := by rfl) :
    PE X (.Call (.Name "sum" p) (e :: es) [] pos) (rE X.K (cbM sumD mr)) := d_cb (cr_sum hc) opA_sum hm (by decide +kernel) ha hg (by decide) (by decide) he hpl
theorem d_join (ho : PE X o (rE X.K mo)) (he : PE X e (rE X.K m)) (hs : starEach [e] X.env = [(false, eval e X.env)] := by rfl) (hbase : attributeBase o "join" X.env (eval o X.env) = eval o X.env := by rfl) (hline : (apos.endLine == pos.line) = true := by rfl) :
    PE X (.Call (.Attribute o "join" apos) [e] [] pos) (rE X.K (joinM mo m)) := toE (pe_join ho he hs hbase hline) (sim_join sim_rE sim_rE)
def prs (K : PySem.W.Frag) (ms : List (ME × ME)) : List (TE × TE) := ms.map fun p => (rE K p.1, rE K p.2)
theorem p_nil : PPs X pos [] [] (prs X.K []) := pps_nil
theorem p_cons {ks : List (Option Expr)} {vs : List Expr} {ms : List (ME × ME)} (ha : PE X a (rE X.K ma)) (hb : PE X b (rE X.K mb)) (hr : PPs X pos ks vs (prs X.K ms)) : PPs X pos (some a :: ks) (b :: vs) (prs X.K ((ma, mb) :: ms)) := pps_cons ha hb hr
theorem d_disp {ks : List (Option Expr)} {vs : List Expr} {ms : List (ME × ME)} (h : PPs X pos ks vs (prs X.K ms)) (hall : ks.all (·.isSome) = true := by rfl) (hl : ks.length = vs.length := by rfl) (h0 : ks ≠ [] := by intro z; cases z) (h15 : ks.length ≤ 15 := by decide) : PE X (.Dict ks vs pos) (rN X.K (dispM ms)) :=
  toN (pe_disp h hall hl h0 h15) (sim_disp ms)
end
end Dk
set_option exponentiation.threshold 256
namespace Dk
open PySem PySem.Spec PyProof.Rows L2
variable [TabP]
variable {K : PySem.W.Frag}
theorem Nw.chg {F0 Gd F H F' H' : Hp} {ios os : List (Option Addr)} {σ : L2.St} {e : Env} {p : Addr} {d : D} (n : Nw K Gd F H os p d) (W : WOk K F0 Gd ios F H σ e os) (sf : Sm F F') (fh : Same F' H')
    (keep : ∀ b o, H b = some o → F b = none → (∀ ps, o ≠ .tbl ps) → b ≠ p → H' b = some o ∧ F' b = none) (tp : Tp F' H') : WOk K F0 Gd ios F' H' σ e os := by
  have kOb : ∀ b c (j : Nat), os[j]?.join = some b → Ob K F H b c → Ob K F' H' b c := fun b c j hj o => by
    obtain ⟨u, hu⟩ := o.has
    have hb : b ≠ p := fun z => by subst z; exact n.no j (join_some hj)
    obtain ⟨h1, h2⟩ := keep b u hu o.1 (o.noTab _ hu).1 hb
    exact o.keep sf (by rw [hu]; exact h1) h2
  refine ⟨fh, W.f0.trans sf, fun a o h => ?_, W.le, W.lo, fun j t h => ?_, W.ds, W.io, tp, W.ng⟩
  · obtain ⟨h1, h2, h3⟩ := W.gd a o h
    obtain ⟨k1, k2⟩ := keep a o h1 h2 (fun ps z => W.ng a ps (z ▸ h)) (ne_of_none h n.gd)
    exact ⟨k1, k2, h3⟩
  · have y := W.sl j t h
    cases t with
    | no => exact y
    | fn kf =>
      obtain ⟨a1, b1, c, m, r⟩ := y
      have k := keep _ _ c m LamX.codeO_ne fun y => (n.ob.noTab _ (by rw [← y]; exact c)).2 _ rfl
      exact ⟨a1, b1, k.1, k.2, r.mono sf⟩
    | fz c => obtain ⟨a, x, b, r⟩ := y; exact ⟨a, x, b, r.mono sf⟩
    | ow c => obtain ⟨b, a1, b1, ob⟩ := y; exact ⟨b, a1, b1, kOb b c j a1 ob⟩
    | io c => obtain ⟨b, a1, b1, ob⟩ := y; exact ⟨b, a1, b1, kOb b c j a1 ob⟩
section
variable {X : Cx}
theorem sw_trueD {kx vx : Expr} {gs : List Comprehension} {scope : Scope} {pos py : Pos} {y : Str} {l : Nat} {env : PySem.Env} (hk : env.scope.kind = .function) (hy : env.scope.names.lookup y = some .local) (hl : (py.line == pos.line) = true)
    (ha : (scope.names.any fun (n, k) => n == y && (k == .local || k == .cell)) = false) : swapsWith (.DictComp kx vx gs scope pos) (some (.Name y py)) l env = pure true := by
  have ky : env.kindOf y = some .local := hy
  have hb : env.blockKind = .function := by unfold Env.blockKind; rw [hk]; rfl
  unfold swapsWith
  simp only [hb, ky, ha, Expr.pos, hl]
  rfl
theorem ps_setDc {i : Nat} {y : Str} {py : Pos} {kx vx tg iter : Expr} {ifs : List Expr} {scope : Scope} {own : List (Str × Nat)} {pos spos : Pos} {wi : TI} {g : TG} {tt : TT} {tk tv : TE} (hc : X.calm = true) (hN : X.N.Nodup) (hy : X.N[i]? = some y) (hyl : X.env.scope.names.lookup y = some .local)
    (hsw : swapsWith (.DictComp kx vx [⟨tg, iter, ifs, 0⟩] scope pos) (some (.Name y py)) spos.line X.env = pure true) (hi : PI X tg iter wi) (ok : BlkOk X.N X.env.scope scope own)
    (hg : ∀ (s : Shared) (H : Hp) (C : Addr) (cl : List (Str × Addr)) (fp : List Addr), PG (X.blk s H scope (compEnvC scope cl C X.env) fp) tg g) (ht : ∀ (s : Shared) (H : Hp) (C : Addr) (cl : List (Str × Addr)) (fp : List Addr), PTs (X.blk s H scope (compEnvC scope cl C X.env) fp) ifs tt)
    (hk : ∀ (s : Shared) (H : Hp) (C : Addr) (cl : List (Str × Addr)) (fp : List Addr), PE (X.blk s H scope (compEnvC scope cl C X.env) fp) kx tk)
    (he : ∀ (s : Shared) (H : Hp) (C : Addr) (cl : List (Str × Addr)) (fp : List Addr), PE (X.blk s H scope (compEnvC scope cl C X.env) fp) vx tv) (hs : ∀ x, foldedSetIterable iter X.env x = pure x := by intro _; rfl) :
    PS X (.Assign [.Name y py] (.DictComp kx vx [⟨tg, iter, ifs, 0⟩] scope pos) spos) (tAsg (tDc wi g tt tk tv (own.map (·.2))) (gName i)) := by
  refine ⟨fun pins s σ H D I h => ?_⟩
  rw [exec_Assign_Name_used _ _ _ _ hsw]
  refine wpAny_bind (wpAny_standAt (wpAny_bind ?_))
  show wpAny _ X.A (do let _ ← comprehension (.DictComp kx vx [⟨tg, iter, ifs, 0⟩] scope pos) scope X.env (firstIterPos [⟨tg, iter, ifs, 0⟩] pos) newDict false (eval iter X.env) (some (assign (.Name y py) X.env))) _ _ s
  have h : tDc wi g tt tk tv (own.map (·.2)) σ H (fun x H1 => gName i x σ H1 D.nx) := h
  refine wpAny_bind (thn (dc_core (Qf := fun _ s' => SP X pins D .next s') hc hN I hi ok hg ht hk he hs h fun L C s' m H' I' q hn f => ?_) fun _ s' hq => wpAny_pure (wpAny_pure hq))
  show wpAny _ _ (assign (.Name y py) X.env (.ref L)) _ _ _
  refine wpAny_assign_Name (store_ok2 (v := V.ref L) I' hN hy (.inl hyl) rfl (fun s2 I2 ⟨a, sb, ha⟩ => ?_) (.inr hyl))
  obtain ⟨f0, f1, f2, f3, f4, f5⟩ := f
  have haC : C ≠ a := by
    rcases ha with z | z
    · rw [z]; exact f1
    · exact fun e => f4 y a z e.symm
  refine ⟨m, hn.sameBut sb haC, fun h3 sb3 => ?_⟩
  exact ⟨_, H', I2.turned (t' := s2.toks) (fun b o hb e => (sb3.2 b hb).trans e) f0 f1 f3 f4 f5, q⟩
theorem s_setDc (i : Nat) {y : Str} {py : Pos} {kx e tg iter : Expr} {ifs : List Expr} {scope : Scope} {pos spos : Pos} (own : List (Str × Nat)) {mi : MI} {js : List Nat} {g : MG} {t : MT} {mk m : ME} (hc : X.calm = true) (hN : X.N.Nodup) (hi : PI X tg iter (rIt X.K mi)) (ok : blkC X.N X.env.scope scope own = true)
    (hg : ∀ (s : Shared) (H : Hp) (C : Addr) (cl : List (Str × Addr)) (fp : List Addr), PG (X.blk s H scope (compEnvC scope cl C X.env) fp) tg (rG X.K js g)) (ht : ∀ (s : Shared) (H : Hp) (C : Addr) (cl : List (Str × Addr)) (fp : List Addr), PTs (X.blk s H scope (compEnvC scope cl C X.env) fp) ifs (rT X.K t))
    (hk : ∀ (s : Shared) (H : Hp) (C : Addr) (cl : List (Str × Addr)) (fp : List Addr), PE (X.blk s H scope (compEnvC scope cl C X.env) fp) kx (rE X.K mk))
    (he : ∀ (s : Shared) (H : Hp) (C : Addr) (cl : List (Str × Addr)) (fp : List Addr), PE (X.blk s H scope (compEnvC scope cl C X.env) fp) e (rE X.K m)) (hy : X.N[i]? = some y := by rfl) (hyl : X.env.scope.names.lookup y = some .local := by rfl)
    (hsw : swapsWith (.DictComp kx e [⟨tg, iter, ifs, 0⟩] scope pos) (some (.Name y py)) spos.line X.env = pure true := by exact sw_trueD rfl rfl rfl (by decide +kernel)) (hj : ∀ j ∈ js, j ∈ own.map (·.2) := by decide) (hs : ∀ x, foldedSetIterable iter X.env x = pure x := by intro _; rfl) :
    PS X (.Assign [.Name y py] (.DictComp kx e [⟨tg, iter, ifs, 0⟩] scope pos) spos) (rS X.K (asgN (dcM mi g t mk m (own.map (·.2))) i)) := toS (ps_setDc hc hN hy hyl hsw hi (blkOk_by ok) hg ht hk he hs) (sim_asgN (sim_dc sim_rI sim_rG sim_rT sim_rE sim_rE hj))
end
end Dk
set_option exponentiation.threshold 256
namespace Dk
open PySem PySem.Spec PyProof.Rows L2
variable [TabP]
section
variable {e : Env}
theorem few_t {n : Nat} (h : n ≤ 1000000) : okB (few n) = some () := by
  unfold okB few
  rw [decide_eq_true h]; rfl
theorem st_asgN {m : MN} {i : Nat} {d : D} (h : m e = some (d, e)) (hi : e[i]? = some .no) : asgN m i e = some (.nx, e.set i (.ow d)) := by
  unfold asgN
  rw [h, Option.bind_some]
  dsimp only
  rw [hi]
end
end Dk
set_option exponentiation.threshold 256
namespace Dk
open PySem PySem.Spec PyProof.Rows L2
variable [TabP]
variable {K : PySem.W.Frag}
/-- a class method -/
def CMethAt (K : PySem.W.Frag) (n m qual : Str) (st : Stmt) : Prop := ∃ C mc p g fd, PySem.W.nsIn K mainGlobals n = some (some (.ref C)) ∧ ClX.CRead K C mc ∧ ClX.CMet K C mc m p g ∧ Fun K m qual st g fd
def HasC (P : Program) (w : World) (K : PySem.W.Frag) (mg : Str → Option Value) (base : Heap) (n m : Str) (k : Nat) (ps : List Str) (fm : MS) : Prop :=
  ∃ C mc p g fd, PySem.W.nsIn K mainGlobals n = some (some (.ref C)) ∧ ClX.CRead K C mc ∧ ClX.CMet K C mc m p g ∧ FnD P w K mg base k g fd ps fm ∧ Binds K fd ps []
theorem hasC {P : Program} {w : World} {mg : Str → Option Value} {base : Heap} {n x qual : Str} {st : Stmt} {N ps : List Str} {k a j : Nat} {m : MS} (At : CMethAt K n x qual st) (S : FnScope N ps (defScope st)) (ha : ps.length = a) (hn : N.length - ps.length = j)
    (hbd : ∀ (kV doc pm : Value) (an : Option Addr) (cdv ct : Value) (us : List Value), us.length = ps.length → bindArgs (PySem.W.fnOf x qual (defArgs st) (defBody st) (defScope st) .none kV doc pm an cdv ct) ⟨us, []⟩ = pure (ps.zip us))
    (hb : ∀ (f : Addr) (cdv : Value) (A : Around) (outer : List PySem.Env) (s : Shared) (H : Hp), Room k (A.deeper (envOfC qual (defScope st) s.heap.objs.size f cdv)) → (A.deeper (envOfC qual (defScope st) s.heap.objs.size f cdv)).guards = some [] →
      PSs (cxOf CX0 P w K mg base N qual (defScope st) f cdv A outer s H E0).nox (defBody st) (rS K m)) : HasC P w K mg base n x (k + 1) ps (fnM a j m) := by
  obtain ⟨C, mc, p, g, fd, h1, h2, h3, Fu⟩ := At
  exact ⟨C, mc, p, g, fd, h1, h2, h3, fnD Fu S ha hn (hb g), Fu.binds hbd⟩
def PropAt (K : PySem.W.Frag) (n m qual : Str) (st : Stmt) : Prop := ∃ C p g fd, PySem.W.nsIn K mainGlobals n = some (some (.ref C)) ∧ Cls K C ∧ PropOf K C m p g ∧ Fun K m qual st g fd
def HasP (P : Program) (w : World) (K : PySem.W.Frag) (mg : Str → Option Value) (base : Heap) (n m : Str) (k : Nat) (ps : List Str) (fm : MS) : Prop :=
  ∃ C p g fd, PySem.W.nsIn K mainGlobals n = some (some (.ref C)) ∧ Cls K C ∧ PropOf K C m p g ∧ FnD P w K mg base k g fd ps fm ∧ Binds K fd ps []
theorem hasP {P : Program} {w : World} {mg : Str → Option Value} {base : Heap} {n x qual : Str} {st : Stmt} {N ps : List Str} {k a j : Nat} {m : MS} (At : PropAt K n x qual st) (S : FnScope N ps (defScope st)) (ha : ps.length = a) (hn : N.length - ps.length = j)
    (hbd : ∀ (kV doc pm : Value) (an : Option Addr) (cdv ct : Value) (us : List Value), us.length = ps.length → bindArgs (PySem.W.fnOf x qual (defArgs st) (defBody st) (defScope st) .none kV doc pm an cdv ct) ⟨us, []⟩ = pure (ps.zip us))
    (hb : ∀ (f : Addr) (cdv : Value) (A : Around) (outer : List PySem.Env) (s : Shared) (H : Hp), Room k (A.deeper (envOfC qual (defScope st) s.heap.objs.size f cdv)) → (A.deeper (envOfC qual (defScope st) s.heap.objs.size f cdv)).guards = some [] →
      PSs (cxOf CX0 P w K mg base N qual (defScope st) f cdv A outer s H E0).nox (defBody st) (rS K m)) : HasP P w K mg base n x (k + 1) ps (fnM a j m) := by
  obtain ⟨C, p, g, fd, h1, h2, h3, Fu⟩ := At
  exact ⟨C, p, g, fd, h1, h2, h3, fnD Fu S ha hn (hb g), Fu.binds hbd⟩
section
variable {X : Cx} {o e : Expr} {es : List Expr} {pos apos : Pos} {k : Nat} {n f m : Str} {mo : ME} {mr : MA} {ps : List Str} {fm : MS}
theorem d_prop (F : HasP X.prog X.w X.K X.mg X.base n f k ps fm) (hr : Room (k + 1) X.A) (hgd : X.A.guards = some []) (he : PE X e (rE X.K mo)) (hab : attributeBase e f X.env (eval e X.env) = eval e X.env := by rfl) : PE X (.Attribute e f pos) (rE X.K (own1M n fm mo)) := by
  obtain ⟨C, p, g, fd, h1, c, hp, F, hb⟩ := F
  refine toE (t := tUn (rOwn1 X.K C fm) (rE X.K mo)) ⟨fun pins s σ H Q I h => ?_⟩ (sim_own1 h1 sim_rE)
  refine attr_of hab (thn (he.run pins s σ H _ I h) fun u s1 ⟨x, H1, I1, rx, a, dx, fs, ex, ea, q⟩ => ?_)
  subst ex
  obtain rfl : u = Value.ref a := rx
  obtain ⟨mA, O, _, _, _, _⟩ := ins_get I1.hok ea
  obtain ⟨od, J, _⟩ := O.look
  obtain ⟨rest, hrec⟩ := hp.rec_
  have I2 := I1.tok (s1.toks + 1)
  have hc : (PySem.W.clsIn X.K C).isSome = true := by
    obtain ⟨cd, hc, _⟩ := PySem.W.any_some c.hd
    rw [hc]; rfl
  have el : [V.ref a].length = ps.length := F.len _ _ _ q
  have bd := hb { s1 with toks := s1.toks + 1 } [.ref a] I2.kIn el
  rw [List.append_nil] at bd
  refine PySem.W.get_bind I1.kIn J (PySem.W.plainGet_of (c.get f)).1 (PySem.W.findObj_data hc hp.at_ hp.get hp.tak) (PySem.W.plainGet_of (c.get f)).2 (wpAny_call (PySem.W.prop_get (s := { s1 with toks := s1.toks + 1 }) I1.kIn hrec ?_))
  refine codeAny_mono (F.run X.A.in1 X.stack { s1 with toks := s1.toks + 1 } H1 ⟨[.ref a], []⟩ [.ref a] [.ref a] Q hr.in1 hgd I2.env0.in1 bd (.cons rfl .nil) q) fun r s' hq => ?_
  cases r with
  | error er => exact False.elim hq
  | ok fl =>
    cases fl with
    | ret u =>
      obtain ⟨v, H', I3, rv, q3⟩ := I2.after hq
      show wpAny _ _ (handedOut u) _ _ _
      rw [PySem.W.handedOut_of (handed_of rv)]
      exact wpAny_pure ⟨v, H', I3, rv, q3⟩
    | next => exact False.elim hq
    | brk => exact False.elim hq
    | cont => exact False.elim hq
end
section
variable {X : Cx} {C f : Addr} {k j : Nat} {fd : FuncData} {ps ks : List Str} {m : MS} {dvs : List V}
theorem run_makeD0 {pins : List (Addr × Obj)} {σ : L2.St} {H : Hp} {s : Shared} {Q : VK} {us : List Value} {vs : List V} (M : Mk X.K C f) (F : FnD X.prog X.w X.K X.mg X.base k f fd ps m) (hr : Room (k + 1) X.A) (hgd : X.A.guards = some []) (hb : KwB X.K fd ps j ks dvs)
    (I : Inv X pins σ H s) (r : Vals vs us)
    (h : ∀ x dx, H x = none → H dx = none → dx ≠ x → spD X.K m (.ref x :: (vs ++ dvs)) (upd (upd H dx (.own x)) x (.ins C dx [])) (fun v H2 => v = .non ∧ Q (.ref x) H2)) :
    wpAny (model X.prog X.w) X.A (call (.ref C) us) (EP X pins σ Q) X.xe s := by
  have hq := h (s.heap.objs.size + 1) s.heap.objs.size (I.hok.fresh (Nat.le_succ _)) (I.hok.fresh (Nat.le_refl _)) (Nat.ne_of_lt (Nat.lt_succ_self _))
  have I2 := Inv.made (C := C) I
  obtain ⟨ds, rd, bd⟩ := hb.lack
  have r2 : Vals (V.ref (s.heap.objs.size + 1) :: (vs ++ dvs)) ((Value.ref (s.heap.objs.size + 1) :: us) ++ ds) := .cons rfl (r.append rd)
  have hl : ((Value.ref (s.heap.objs.size + 1) :: us) ++ ds).length = ps.length := by
    have e := r2.length
    rw [F.len _ _ _ hq] at e
    exact e.symm
  refine wpAny_call (make_map (f := f) I.kIn M.makes M.init (beq_iff_eq.mp M.fn) (codeAny_mono (F.run _ X.stack _ _ ⟨Value.ref (s.heap.objs.size + 1) :: us, []⟩ ((Value.ref (s.heap.objs.size + 1) :: us) ++ ds) _ _ (hr.make C us []) hgd
    (I2.env0.make C us []) (bd _ _ I2.kIn hl) r2 hq) fun r s' hq' => ?_))
  cases r with
  | error e => exact False.elim hq'
  | ok fl =>
    cases fl with
    | ret u =>
      obtain ⟨v, H', I3, rv, ev, q3⟩ := I2.after hq'
      subst ev
      exact ⟨rv, ⟨V.ref (s.heap.objs.size + 1), H', I3, rfl, q3⟩⟩
    | next => exact False.elim hq'
    | brk => exact False.elim hq'
    | cont => exact False.elim hq'
theorem d_makeK0 {x : Str} {p pos : Pos} {e : Expr} {es : List Expr} {mr : MA} {ds : List D} (F : HasMK X.prog X.w X.K X.mg X.base x "__init__" k ps j ks dvs m) (hmk : MakeAt X.K X.mg x) (hr : Room (k + 1) X.A) (hgd : X.A.guards = some []) (hds : ∀ F : Hp, RpL X.K F dvs ds) (ha : PA X (e :: es) (rA X.K mr)) (hg : Gl X x := by rfl)
    (hdb : (x == ("__debug__" : Str)) = false := by decide) (he : starEach (e :: es) X.env = (false, eval e X.env) :: starEach es X.env := by rfl) (hpl : (backTo pos (starEach es X.env)).any (·.1) = false := by rfl) :
    PE X (.Call (.Name x p) (e :: es) [] pos) (rE X.K (makM x m (apA mr (csA ds)))) := by
  obtain ⟨C, f, fd, h1, h2, h3, F, hb⟩ := F
  obtain ⟨C', c1, c2, c3, c4⟩ := hmk
  cases nsC h1 c1
  have M : Mk X.K C f := ⟨c3, h3.at_, h3.fn, c4⟩
  refine toE (t := tMakeD X.K C m (tAp (rA X.K mr) (tVs dvs))) ⟨fun pins s σ H Q I h => ?_⟩ (sim_make h1 (sim_ap sim_rA (sim_vs hds)))
  refine wpAny_Call_Name_kw (ld_glob I hg c2 ?_ hdb)
  refine PySem.W.callWith_K (h₀ := X.base) I.ok.mod.kin M.kp (thn (ha.run pos pins s σ H _ I h) fun us s1 ⟨vs, H1, I1, r, q⟩ => ⟨I1.kIn, ?_⟩) he hpl
  exact run_makeD0 M F hr hgd hb I1 r q
end
end Dk
set_option exponentiation.threshold 256
namespace Dk
open PySem PySem.Spec PyProof.Rows L2
end Dk
set_option exponentiation.threshold 256
namespace Dk
open PySem PySem.Spec PyProof.Rows L2
variable [TabP]
variable {K : PySem.W.Frag}
def iAny (K : PySem.W.Frag) (tl : TE) : TI := fun σ H R => tl σ H fun x H1 => (∃ a, x = .ref a ∧ (∃ xs, SqL K H1 a xs) ∧ R (Itl K a) H1) ∨ (∃ a, x = .ref a ∧ (∃ xs, SqT K H1 a xs) ∧ R (Itt K a) H1) ∨ (∃ y, x = .str y ∧ R (Its y) H1)
theorem pi_any {X : Cx} {tg l : Expr} {tl : TE} (hl : PE X l tl) : PI X tg l (iAny X.K tl) := by
  refine ⟨fun pins s σ H R I h => ?_⟩
  refine thn (hl.run pins s σ H _ I h) fun v s1 ⟨x, H1, I1, r1, q1⟩ => ?_
  rcases q1 with ⟨a, e, ⟨xs, hq⟩, q⟩ | ⟨a, e, ⟨xs, hq⟩, q⟩ | ⟨y, e, q⟩
  · subst e
    cases r1
    obtain ⟨its, rv, p, hz⟩ := I1.list hq
    refine wpAny_pyIter_list p.isList ?_
    refine ⟨s1.heap.objs.size, [s1.heap.objs.size], _, _, H1, rfl, I1.kept (t' := s1.toks) fun b o e => Heap.get?_push_of_some _ e, turn_list a _, ⟨_, Heap.get?_push_size _ rfl, rfl, rfl⟩, fun b hb => ?_, q⟩
    have e : b = s1.heap.objs.size := by simpa using hb
    subst e
    exact I1.fpOk (Nat.le_refl _) (I1.hok.fresh (Nat.le_refl _))
  · subst e
    cases r1
    obtain ⟨its, rv, p, hz⟩ := I1.tuple hq
    refine wpAny_pyIter_tuple (show s1.heap.IsTuple a its.toArray from p) ?_
    refine ⟨s1.heap.objs.size, [s1.heap.objs.size], _, _, H1, rfl, I1.kept (t' := s1.toks) fun b o e => Heap.get?_push_of_some _ e, turn_tuple a _, ⟨_, Heap.get?_push_size _ rfl, rfl, rfl⟩, fun b hb => ?_, q⟩
    have e : b = s1.heap.objs.size := by simpa using hb
    subst e
    exact I1.fpOk (Nat.le_refl _) (I1.hok.fresh (Nat.le_refl _))
  · subst e
    obtain ⟨t, rfl⟩ := r1
    cases ha : y.cps.all (· < 128)
    · exact wpAny_pyIter_wide ha (pi_one (tk := s1.toks) I1 _ (turn_str _ y t "str_iterator" (.inr rfl)) ⟨_, Heap.get?_push_size _ rfl, rfl, rfl⟩ q)
    · exact wpAny_pyIter_ascii ha (pi_one (tk := s1.toks) I1 _ (turn_str _ y t "str_ascii_iterator" (.inl rfl)) ⟨_, Heap.get?_push_size _ rfl, rfl, rfl⟩ q)
def walkD : D → Option (List D)
  | .lst ds => some ds
  | .tup ds => some ds
  | .str x => some (signs x)
  | _ => none
def itX (m : ME) : MI := fun e => (m e).bind fun p => (tk p.2 p.1).bind fun q => (walkD (wk q.1)).map fun ds => (ds, q.2)
theorem sim_itX {t : TE} {m : ME} (h : SimE K t m) : SimI K (iAny K t) (itX m) := ⟨fun {F0 Gd ios F H σ e os ds e' R} W hm q => by
  unfold itX at hm
  obtain ⟨⟨l, e1⟩, h1, hm⟩ := Option.bind_eq_some_iff.mp hm
  obtain ⟨⟨d, e2⟩, h2, hm⟩ := Option.bind_eq_some_iff.mp hm
  obtain ⟨ds2, h3, hm⟩ := Option.map_eq_some_iff.mp hm
  cases hm
  dsimp only at h3
  refine h.run W h1 fun F1 H1 os1 x W1 s1 k1 => ?_
  obtain ⟨F2, os2, W2, s2, r⟩ := W1.take k1 h2
  have r := r.wk
  revert h3 r
  generalize wk d = d2
  intro h3 r
  cases r <;> first | (cases h3; done) | skip
  · rename_i x
    cases h3
    exact .inr (.inr ⟨x, rfl, q F2 H1 os2 _ W2 (s1.trans s2) (it_str x)⟩)
  · rename_i hs r
    cases h3
    exact .inl ⟨_, rfl, ⟨_, .inl (.inl (W2.fh _ _ hs))⟩, q F2 H1 os2 _ W2 (s1.trans s2) (it_list (.inl (.inl hs)) r)⟩
  · rename_i hs r
    cases h3
    exact .inr (.inl ⟨_, rfl, ⟨_, seqT (.of W2.fh) hs⟩, q F2 H1 os2 _ W2 (s1.trans s2) (it_tup hs r)⟩)⟩
theorem i_any {X : Cx} {tg e : Expr} {m : ME} (h : PE X e (rE X.K m)) : PI X tg e (rIt X.K (itX m)) := toI (pi_any h) (sim_itX sim_rE)
end Dk
set_option exponentiation.threshold 256
namespace Dk
open PySem PySem.Spec PyProof.Rows L2
variable [TabP]
abbrev Tx := List Nat
abbrev Rep (α : Type) := D → α → Prop
inductive A2 {α : Type} (r : Rep α) : List D → List α → Prop
  | nil : A2 r [] []
  | cons {d : D} {ds : List D} {a : α} {as : List α} : r d a → A2 r ds as → A2 r (d :: ds) (a :: as)
section
variable {α β γ δ ε : Type} {r : Rep α} {s : Rep β}
theorem A2.len : ∀ {ds : List D} {as : List α}, A2 r ds as → ds.length = as.length
  | _, _, .nil => rfl
  | _, _, .cons _ h => by rw [List.length_cons, List.length_cons, h.len]
theorem A2.app : ∀ {ds es : List D} {as bs : List α}, A2 r ds as → A2 r es bs → A2 r (ds ++ es) (as ++ bs)
  | _, _, _, _, .nil, h => h
  | _, _, _, _, .cons a h, k => .cons a (h.app k)
theorem A2.get : ∀ {ds : List D} {as : List α} {i : Nat} {a : α}, A2 r ds as → as[i]? = some a → ∃ d, ds[i]? = some d ∧ r d a
  | _, _, i, a, .nil, e => by simp at e
  | _, _, 0, a, .cons h _, e => by simp at e; subst e; exact ⟨_, rfl, h⟩
  | _, _, i + 1, a, .cons _ q, e => by
    obtain ⟨y, h1, h2⟩ := A2.get (i := i) (a := a) q (by simpa using e)
    exact ⟨y, by simpa using h1, h2⟩
theorem A2.take : ∀ {ds : List D} {as : List α} (n : Nat), A2 r ds as → A2 r (ds.take n) (as.take n)
  | _, _, 0, _ => .nil
  | _, _, _ + 1, .nil => .nil
  | _, _, n + 1, .cons h q => .cons h (A2.take n q)
theorem A2.drop : ∀ {ds : List D} {as : List α} (n : Nat), A2 r ds as → A2 r (ds.drop n) (as.drop n)
  | _, _, 0, q => q
  | _, _, _ + 1, .nil => .nil
  | _, _, n + 1, .cons h q => A2.drop n q
theorem A2.set {d : D} {a : α} (h : r d a) : ∀ {ds : List D} {as : List α} (i : Nat), A2 r ds as → A2 r (ds.set i d) (as.set i a)
  | _, _, _, .nil => .nil
  | _, _, 0, .cons _ q => .cons h q
  | _, _, i + 1, .cons q w => .cons q (A2.set h i w)
theorem A2.rep {ds : List D} {as : List α} (h : A2 r ds as) : ∀ n : Nat, A2 r (List.replicate n ds).flatten (List.replicate n as).flatten
  | 0 => .nil
  | n + 1 => by rw [List.replicate_succ, List.replicate_succ, List.flatten_cons, List.flatten_cons]; exact h.app (A2.rep h n)
theorem A2.mono {r' : Rep α} (h : ∀ d a, r d a → r' d a) : ∀ {ds : List D} {as : List α}, A2 r ds as → A2 r' ds as
  | _, _, .nil => .nil
  | _, _, .cons a q => .cons (h _ _ a) (A2.mono h q)
theorem A2.mem : ∀ {ds : List D} {as : List α} {d : D}, A2 r ds as → d ∈ ds → ∃ a ∈ as, r d a
  | _, _, _, .cons a q, h => by
    rcases List.mem_cons.mp h with rfl | h
    · exact ⟨_, List.mem_cons_self, a⟩
    · obtain ⟨x, h1, h2⟩ := q.mem h
      exact ⟨x, List.mem_cons_of_mem _ h1, h2⟩
def mkS (x : Tx) : Str := ⟨x.toArray⟩
theorem mkS_inj {x y : Tx} (h : mkS x = mkS y) : x = y := by
  have : (mkS x).cps.toList = (mkS y).cps.toList := by rw [h]
  exact this
def qB : Rep Bool := fun d b => d = .bl b
def okS (x : Tx) : Bool := few x.length && x.all fun c => decide (c < 1114112)
def qS : Rep Tx := fun d x => d = .str (mkS x) ∧ okS x = true
def qL (r : Rep α) : Rep (List α) := fun d xs => ∃ ds, d = .lst ds ∧ A2 r ds xs ∧ few xs.length = true
def qT (r : Rep α) : Rep (List α) := fun d xs => ∃ ds, wk d = .tup ds ∧ A2 r ds xs ∧ few xs.length = true
inductive A2K (r : Rep α) : List (Key × D) → List (Tx × α) → Prop
  | nil : A2K r [] []
  | cons {k : Tx} {d : D} {ds : List (Key × D)} {a : α} {as : List (Tx × α)} : okS k = true → r d a → A2K r ds as → A2K r ((.inr (mkS k), d) :: ds) ((k, a) :: as)
/-- objects: the fields in order -/
inductive AF {α : Type} (a : α) : List (Str × (α → D → Prop)) → List (Str × D) → Prop
  | nil : AF a [] []
  | cons {k : Str} {p : α → D → Prop} {d : D} {gs : List (Str × (α → D → Prop))} {fs : List (Str × D)} : p a d → AF a gs fs → AF a ((k, p) :: gs) ((k, d) :: fs)
theorem AF.look {a : α} {f : Str} {p : α → D → Prop} : ∀ {gs : List (Str × (α → D → Prop))} {fs : List (Str × D)}, AF a gs fs → gs.lookup f = some p → ∃ d, fs.lookup f = some d ∧ p a d
  | _, _, .nil, h => by cases h
  | _, _, .cons (k := k) hp q, h => by
    unfold List.lookup at h ⊢
    cases hk : f == k with
    | true => rw [hk] at h; cases h; exact ⟨_, rfl, hp⟩
    | false => rw [hk] at h; exact q.look h
end
inductive Cell where
  | u | n | v (p : D → Prop) | o (p : D → Prop) | i (p : D → Prop) | e (p : D → Prop)
abbrev vl {α : Type} (r : Rep α) (a : α) : Cell := .v (fun d => r d a)
abbrev ol {α : Type} (r : Rep α) (a : α) : Cell := .o (fun d => r d a)
/-- owned, or no more -/
abbrev el {α : Type} (r : Rep α) (a : α) : Cell := .e (fun d => r d a)
def SlC (s : Sl) : Cell → Prop
  | .u => ∀ d, s ≠ .io d
  | .n => s = .no
  | .v p => ∃ d, s = .fz d ∧ p d
  | .o p => ∃ d, s = .ow d ∧ p d
  | .i p => ∃ d, s = .io d ∧ p d
  | .e p => ∃ d, (s = .fz d ∨ s = .ow d) ∧ p d
inductive Ok : Env → List Cell → Prop
  | nil : Ok [] []
  | cons {s : Sl} {e : Env} {c : Cell} {Γ : List Cell} : SlC s c → Ok e Γ → Ok (s :: e) (c :: Γ)
theorem Ok.len : ∀ {e : Env} {Γ : List Cell}, Ok e Γ → e.length = Γ.length
  | _, _, .nil => rfl
  | _, _, .cons _ h => by rw [List.length_cons, List.length_cons, h.len]
theorem Ok.get : ∀ {e : Env} {Γ : List Cell} {i : Nat} {c : Cell}, Ok e Γ → Γ[i]? = some c → ∃ s, e[i]? = some s ∧ SlC s c
  | _, _, i, _, .nil, h => by simp at h
  | _, _, 0, _, .cons a h, e => by simp at e; subst e; exact ⟨_, rfl, a⟩
  | _, _, i + 1, _, .cons a h, e => by
    obtain ⟨s, h1, h2⟩ := h.get (i := i) (by simpa using e)
    exact ⟨s, by simpa using h1, h2⟩
theorem Ok.set {s : Sl} {c : Cell} (hs : SlC s c) : ∀ {e : Env} {Γ : List Cell} (i : Nat), Ok e Γ → Ok (e.set i s) (Γ.set i c)
  | _, _, _, .nil => .nil
  | _, _, 0, .cons _ h => .cons hs h
  | _, _, i + 1, .cons a h => .cons a (h.set hs i)
/-- less is known -/
inductive CLe : Cell → Cell → Prop
  | rfl {c : Cell} : CLe c c
  | n : CLe .n .u
  | v {p : D → Prop} : CLe (.v p) .u
  | o {p : D → Prop} : CLe (.o p) .u
  | vv {p q : D → Prop} : (∀ d, p d → q d) → CLe (.v p) (.v q)
  | oo {p q : D → Prop} : (∀ d, p d → q d) → CLe (.o p) (.o q)
  | ii {p q : D → Prop} : (∀ d, p d → q d) → CLe (.i p) (.i q)
  | ve {p : D → Prop} : CLe (.v p) (.e p)
  | oe {p : D → Prop} : CLe (.o p) (.e p)
  | e {p : D → Prop} : CLe (.e p) .u
theorem SlC.le {s : Sl} {c c' : Cell} (h : SlC s c) (l : CLe c c') : SlC s c' := by
  cases l with
  | rfl => exact h
  | n => cases h; exact fun d z => by cases z
  | v => obtain ⟨d, h, _⟩ := h; subst h; exact fun d z => by cases z
  | o => obtain ⟨d, h, _⟩ := h; subst h; exact fun d z => by cases z
  | vv f => obtain ⟨d, h, q⟩ := h; exact ⟨d, h, f d q⟩
  | oo f => obtain ⟨d, h, q⟩ := h; exact ⟨d, h, f d q⟩
  | ii f => obtain ⟨d, h, q⟩ := h; exact ⟨d, h, f d q⟩
  | ve => obtain ⟨d, h, q⟩ := h; exact ⟨d, .inl h, q⟩
  | oe => obtain ⟨d, h, q⟩ := h; exact ⟨d, .inr h, q⟩
  | e =>
    obtain ⟨d, h, _⟩ := h
    rcases h with h | h <;> (subst h; exact fun d z => by cases z)
inductive Le : List Cell → List Cell → Prop
  | nil : Le [] []
  | cons {c c' : Cell} {Γ Γ' : List Cell} : CLe c c' → Le Γ Γ' → Le (c :: Γ) (c' :: Γ')
theorem Le.refl : ∀ Γ : List Cell, Le Γ Γ
  | [] => .nil
  | c :: Γ => .cons .rfl (Le.refl Γ)
theorem Ok.le : ∀ {e : Env} {Γ Γ' : List Cell}, Ok e Γ → Le Γ Γ' → Ok e Γ'
  | _, _, _, .nil, .nil => .nil
  | _, _, _, .cons a h, .cons l k => .cons (a.le l) (h.le k)
/-- l is d, and stays it -/
def Stb (Γ : List Cell) (e : Env) (l : L) (d : D) : Prop := l = .v d ∨ ∃ i p, l = .s i ∧ Γ[i]? = some (.v p) ∧ e[i]? = some (.fz d)
def Kp (Γ Γ' : List Cell) (e e' : Env) : Prop := ∀ (i : Nat) p, Γ[i]? = some (.v p) → Γ'[i]? = some (.v p) ∧ e'[i]? = e[i]?
theorem Kp.refl (Γ : List Cell) (e : Env) : Kp Γ Γ e e := fun _ _ h => ⟨h, rfl⟩
theorem Kp.trans {Γ Γ1 Γ2 : List Cell} {e e1 e2 : Env} (h : Kp Γ Γ1 e e1) (k : Kp Γ1 Γ2 e1 e2) : Kp Γ Γ2 e e2 := fun i p q => by
  obtain ⟨h1, h2⟩ := h i p q
  obtain ⟨k1, k2⟩ := k i p h1
  exact ⟨k1, k2.trans h2⟩
section
variable {Γ Γ' : List Cell} {e e' : Env} {l : L} {d : D}
theorem Stb.kp (h : Stb Γ e l d) (k : Kp Γ Γ' e e') : Stb Γ' e' l d := by
  rcases h with h | ⟨i, p, h1, h2, h3⟩
  · exact .inl h
  · obtain ⟨k1, k2⟩ := k i p h2
    exact .inr ⟨i, p, h1, k1, by rw [k2]; exact h3⟩
theorem Stb.tk (h : Stb Γ e l d) : Dk.tk e l = some (d, e) := by
  rcases h with rfl | ⟨i, p, rfl, _, h⟩
  · rfl
  · unfold Dk.tk; dsimp only; rw [h]
theorem Stb.rdR (h : Stb Γ e l d) : Dk.rdR e l = some d := by
  rcases h with rfl | ⟨i, p, rfl, _, h⟩
  · rfl
  · unfold Dk.rdR; dsimp only; rw [h]; rfl
theorem Stb.rd (h : Stb Γ e l d) : Dk.rd e l = some (wk d) := by unfold Dk.rd; rw [h.rdR]; rfl
theorem Stb.v : Stb Γ e (.v d) d := .inl rfl
end
/-- m tells a value with p; the slots behind it: Γ' -/
def Ev (Γ : List Cell) (m : ME) (p : D → Prop) (Γ' : List Cell) : Prop := ∀ e, Ok e Γ → ∃ l d e', m e = some (l, e') ∧ Ok e' Γ' ∧ Stb Γ' e' l d ∧ Kp Γ Γ' e e' ∧ p d
/-- .. nothing changes -/
def Tv (Γ : List Cell) (m : ME) (p : D → Prop) : Prop := ∀ e, Ok e Γ → ∃ l d, m e = some (l, e) ∧ Stb Γ e l d ∧ p d
/-- .. it can be read -/
def Rv (Γ : List Cell) (m : ME) (p : D → Prop) : Prop := ∀ e, Ok e Γ → ∃ l d, m e = some (l, e) ∧ rdR e l = some d ∧ p d
def TvN (Γ : List Cell) (m : MN) (p : D → Prop) : Prop := ∀ e, Ok e Γ → ∃ d, m e = some (d, e) ∧ p d
inductive AP : List (D → Prop) → List D → Prop
  | nil : AP [] []
  | cons {p : D → Prop} {ps : List (D → Prop)} {d : D} {ds : List D} : p d → AP ps ds → AP (p :: ps) (d :: ds)
inductive StbL (Γ : List Cell) (e : Env) : List L → List D → Prop
  | nil : StbL Γ e [] []
  | cons {l : L} {ls : List L} {d : D} {ds : List D} : Stb Γ e l d → StbL Γ e ls ds → StbL Γ e (l :: ls) (d :: ds)
theorem StbL.kp {Γ Γ' : List Cell} {e e' : Env} (k : Kp Γ Γ' e e') : ∀ {ls : List L} {ds : List D}, StbL Γ e ls ds → StbL Γ' e' ls ds
  | _, _, .nil => .nil
  | _, _, .cons h q => .cons (h.kp k) (q.kp k)
theorem StbL.tks {Γ : List Cell} {e : Env} : ∀ {ls : List L} {ds : List D}, StbL Γ e ls ds → Dk.tks e ls = some (ds, e)
  | _, _, .nil => rfl
  | _, _, .cons h q => by
    unfold Dk.tks
    rw [h.tk, Option.bind_some]
    dsimp only
    rw [q.tks]; rfl
/-- what a def does -/
def Fn (q : Fl → Option D) (m : MS) (ps : List (D → Prop)) (p : D → Prop) : Prop := ∀ ds, AP ps ds → ∃ fl e d, m (ds.map .fz) = some (fl, e) ∧ q fl = some d ∧ p d
/-- .. with an owned first argument -/
def FnC (q : Fl → Option D) (m : MS) (pi : D → Prop) (ps : List (D → Prop)) (p po : D → Prop) : Prop := ∀ c ds, pi c → AP ps ds → ∃ fl c' e d, m (.io c :: ds.map .fz) = some (fl, .io c' :: e) ∧ q fl = some d ∧ p d ∧ po c'
abbrev at_ {α : Type} (r : Rep α) (a : α) : D → Prop := fun d => r d a
section
variable {Γ Γ' Γ1 Γ2 : List Cell} {m ma mb : ME} {p pa pb : D → Prop} {α β : Type}
theorem Ev.mono {p' : D → Prop} (h : Ev Γ m p Γ') (f : ∀ d, p d → p' d) : Ev Γ m p' Γ' := fun e he => by
  obtain ⟨l, d, e', h1, h2, h3, h4, h5⟩ := h e he
  exact ⟨l, d, e', h1, h2, h3, h4, f d h5⟩
theorem Tv.mono {p' : D → Prop} (h : Tv Γ m p) (f : ∀ d, p d → p' d) : Tv Γ m p' := fun e he => by
  obtain ⟨l, d, h1, h2, h3⟩ := h e he
  exact ⟨l, d, h1, h2, f d h3⟩
theorem rd_of {e : Env} {l : L} {d : D} (h : rdR e l = some d) : rd e l = some (wk d) := by unfold rd; rw [h]; rfl
def O2 (op : D → D → Option D) (pa pb p : D → Prop) : Prop := ∀ x y, pa x → pb y → ∃ d, op (wk x) (wk y) = some d ∧ p d
theorem rv_bin {op : D → D → Option D} (ha : Rv Γ ma pa) (hb : Rv Γ mb pb) (ho : O2 op pa pb p) : Tv Γ (binM op ma mb) p := fun e he => by
  obtain ⟨l, d, h1, h2, h3⟩ := ha e he
  obtain ⟨k, c, k1, k2, k3⟩ := hb e he
  obtain ⟨z, hz, hp⟩ := ho d c h3 k3
  refine ⟨.v z, z, ?_, .v, hp⟩
  unfold binM
  rw [h1, Option.bind_some]
  dsimp only
  rw [k1, Option.bind_some]
  dsimp only
  rw [rd_of h2, Option.bind_some, rd_of k2, Option.bind_some, hz]; rfl
theorem TvN.mono {m : MN} {p' : D → Prop} (h : TvN Γ m p) (f : ∀ d, p d → p' d) : TvN Γ m p' := fun e he => by
  obtain ⟨d, h1, h3⟩ := h e he
  exact ⟨d, h1, f d h3⟩
theorem AP.len : ∀ {ps : List (D → Prop)} {ds : List D}, AP ps ds → ds.length = ps.length
  | _, _, .nil => rfl
  | _, _, .cons _ h => by rw [List.length_cons, List.length_cons, h.len]
/-- all of one kind: a list -/
inductive APL {α : Type} (r : Rep α) : List (D → Prop) → List α → Prop
  | nil : APL r [] []
  | cons {a : α} {ps : List (D → Prop)} {as : List α} : APL r ps as → APL r (at_ r a :: ps) (a :: as)
theorem APL.len {r : Rep α} : ∀ {ps : List (D → Prop)} {as : List α}, APL r ps as → as.length = ps.length
  | _, _, .nil => rfl
  | _, _, .cons h => by rw [List.length_cons, List.length_cons, h.len]
theorem resN_V {fl : Fl} {d : D} (h : resN fl = some d) : resV fl = some d := by
  cases fl <;> first | (cases h; done) | (cases h; rfl) | exact h
theorem Fn.v {f : MS} {ps : List (D → Prop)} (h : Fn resN f ps p) : Fn resV f ps p := fun ds k => by
  obtain ⟨fl, e, d, h1, h2, h3⟩ := h ds k
  exact ⟨fl, e, d, h1, resN_V h2, h3⟩
theorem StbL.cs {e : Env} : ∀ cs : List D, StbL Γ e (cs.map L.v) cs
  | [] => .nil
  | _ :: cs => .cons .v (StbL.cs cs)
theorem StbL.app {e : Env} : ∀ {ls ks : List L} {ds cs : List D}, StbL Γ e ls ds → StbL Γ e ks cs → StbL Γ e (ls ++ ks) (ds ++ cs)
  | _, _, _, _, .nil, h => h
  | _, _, _, _, .cons a h, k => .cons a (h.app k)
theorem AP.app : ∀ {ps qs : List (D → Prop)} {ds cs : List D}, AP ps ds → AP qs cs → AP (ps ++ qs) (ds ++ cs)
  | _, _, _, _, .nil, h => h
  | _, _, _, _, .cons a h, k => .cons a (h.app k)
end
end Dk
set_option exponentiation.threshold 256
namespace Dk
open PySem PySem.Spec PyProof.Rows L2
variable [TabP]
section
variable {α β γ δ : Type} {r : Rep α} {s : Rep β}
theorem okS_all {x : Tx} (h : okS x = true) : (x.all fun c => decide (c < 1114112)) = true := (Bool.and_eq_true_iff.mp h).2
theorem few_le {n : Nat} (h : few n = true) : n ≤ 1000000 := of_decide_eq_true h
theorem few_of {n : Nat} (h : n ≤ 1000000) : few n = true := decide_eq_true h
theorem okS_of {x : Tx} (h : x.length ≤ 1000000) (k : ∀ c ∈ x, c < 1114112) : okS x = true := by
  unfold okS
  rw [Bool.and_eq_true]
  exact ⟨few_of h, List.all_eq_true.mpr fun c hc => decide_eq_true (k c hc)⟩
theorem okS_mem {x : Tx} (h : okS x = true) {c : Nat} (hc : c ∈ x) : c < 1114112 := of_decide_eq_true (List.all_eq_true.mp (okS_all h) c hc)
theorem atI_len {x : List α} {i : Int} {a : α} (h : atI x i = some a) : ∃ j : Nat, ixN x.length i = some j ∧ x[j]? = some a := Option.bind_eq_some_iff.mp h
theorem A2.atI {ds : List D} {as : List α} {i : Int} {a : α} (h : A2 r ds as) (k : L2.atI as i = some a) : ∃ d, L2.atI ds i = some d ∧ r d a := by
  obtain ⟨j, h1, h2⟩ := atI_len k
  obtain ⟨d, h3, h4⟩ := h.get h2
  refine ⟨d, ?_, h4⟩
  unfold L2.atI
  rw [h.len, h1]; exact h3
theorem A2.cut {ds : List D} {as : List α} (h : A2 r ds as) (lo hi : Option Int) : A2 r (cutL ds lo hi) (cutL as lo hi) := by
  unfold cutL
  rw [h.len]; exact (h.drop _).take _
/-- a representation that == tells rightly -/
structure EqR {α : Type} (r : Rep α) (f : α → PyData) (n : Nat) : Prop where
  py : ∀ d a, r d a → toPy d = some (f a)
  lay : ∀ d a, r d a → (f a).canLay0 = true
  dep : ∀ a, (f a).depth ≤ n
  inj : ∀ a b, PyData.eqv (f a) (f b) = true ↔ a = b
theorem toPy_wk (d : D) : toPy (wk d) = toPy d := by cases d <;> rfl
theorem eq_S : EqR qS (fun x => .str (mkS x)) 0 := ⟨fun d a h => by obtain ⟨rfl, _⟩ := h; rfl, fun d a h => by
    obtain ⟨rfl, h⟩ := h
    show PyData.strOk (mkS a) = true
    unfold PyData.strOk mkS
    rw [← Array.all_toList]
    exact List.all_eq_true.mpr fun c hc => by
      have := okS_mem h hc
      simpa using this, fun _ => Nat.le_refl _, fun a b => by
    show (mkS a == mkS b) = true ↔ _
    rw [beq_iff_eq]
    exact ⟨mkS_inj, fun h => by rw [h]⟩⟩
section
variable {f : α → PyData} {g : β → PyData} {n k : Nat}
theorem toPyL_a2 (h : EqR r f n) : ∀ {ds : List D} {as : List α}, A2 r ds as → toPyL ds = some (as.map f)
  | _, _, .nil => rfl
  | _, _, .cons a q => by
    unfold toPyL
    rw [h.py _ _ a, Option.bind_some, toPyL_a2 h q]; rfl
theorem layAll (h : EqR r f n) : ∀ {ds : List D} {as : List α}, A2 r ds as → PyData.canLayAll0 (as.map f) = true
  | _, _, .nil => rfl
  | _, _, .cons a q => by
    rw [List.map_cons]
    unfold PyData.canLayAll0
    rw [h.lay _ _ a, layAll h q]; rfl
theorem depAll (h : EqR r f n) : ∀ as : List α, PyData.depthAll (as.map f) ≤ n
  | [] => Nat.zero_le _
  | a :: as => by
    rw [List.map_cons]
    unfold PyData.depthAll
    exact Nat.max_le.mpr ⟨h.dep a, depAll h as⟩
theorem injAll (h : EqR r f n) : ∀ as bs : List α, PyData.eqvAll (as.map f) (bs.map f) = true ↔ as = bs
  | [], [] => by simp [PyData.eqvAll]
  | [], _ :: _ => by simp [PyData.eqvAll]
  | _ :: _, [] => by simp [PyData.eqvAll]
  | a :: as, b :: bs => by
    rw [List.map_cons, List.map_cons]
    unfold PyData.eqvAll
    rw [Bool.and_eq_true, h.inj, injAll h as bs]
    simp
theorem eq_L (h : EqR r f n) : EqR (qL r) (fun xs => .list (xs.map f)) (n + 1) := ⟨fun d a k => by
    obtain ⟨ds, rfl, k, _⟩ := k
    show (toPyL ds).map _ = _
    rw [toPyL_a2 h k]; rfl, fun d a k => by
    obtain ⟨ds, rfl, k, _⟩ := k
    show PyData.canLayAll0 _ = true
    exact layAll h k, fun a => by
    show PyData.depthAll _ + 1 ≤ n + 1
    have := depAll h a; omega, fun a b => injAll h a b⟩
theorem shp_of (h : EqR r f n) (hn : n ≤ 64) {d : D} {a : α} (k : r d a) : shp (wk d) = some (f a) := by
  unfold shp
  rw [toPy_wk, h.py _ _ k, Option.bind_some]
  have : SeqAt.shaped (f a) = true := by
    unfold SeqAt.shaped
    rw [h.lay _ _ k, Bool.true_and]
    exact decide_eq_true (Nat.le_trans (h.dep a) hn)
  rw [this]; rfl
theorem o2_eq [DecidableEq α] (h : EqR r f n) {a b : α} (hn : n ≤ 64 := by decide) : O2 eqD (at_ r a) (at_ r b) (at_ qB (decide (a = b))) := fun x y hx hy => by
  refine ⟨.bl (PyData.eqv (f a) (f b)), ?_, ?_⟩
  · unfold eqD
    rw [shp_of h hn hx, shp_of h hn hy]; rfl
  · show D.bl _ = .bl _
    congr 1
    exact Bool.eq_iff_iff.mpr (by rw [h.inj, decide_eq_true_iff])
end
theorem A2K.len : ∀ {ds : List (Key × D)} {as : List (Tx × α)}, A2K r ds as → ds.length = as.length
  | _, _, .nil => rfl
  | _, _, .cons _ _ h => by rw [List.length_cons, List.length_cons, h.len]
theorem a2_strs : ∀ {ds : List D} {as : List Tx}, A2 qS ds as → strsD ds = some (as.map mkS)
  | _, _, .nil => rfl
  | _, _, .cons h q => by
    obtain ⟨rfl, _⟩ := h
    unfold strsD
    rw [a2_strs q]; rfl
end
end Dk
set_option exponentiation.threshold 256
namespace Dk
open PySem PySem.Spec PyProof.Rows L2
variable [TabP]
section
variable {Γ Γ' Γ0 Γ1 Γ2 : List Cell} {m ma mb : ME} {p pa pb : D → Prop} {α β γ δ σ ρ : Type} {r : Rep α} {s : Rep β} {t : Rep γ}
def TI (Γ : List Cell) (mi : MI) (r : Rep α) (xs : List α) : Prop := ∀ e, Ok e Γ → ∃ ds, mi e = some (ds, e) ∧ A2 r ds xs
def rngI (lo : Int) (n : Nat) : List Int := (List.range n).map fun (i : Nat) => lo + i
def Src (pa : D → Prop) (r : Rep α) (xs : List α) : Prop := ∀ d, pa d → ∃ ds, srcD d = some ds ∧ A2 r ds xs
def TG (Γ : List Cell) (g : MG) (p : D → Prop) (Γ' : List Cell) (js : List Nat) : Prop := ∀ e d, Ok e Γ → p d → ∃ e', g d e = some e' ∧ Ok e' Γ' ∧ e'.length = e.length ∧ (∀ i, i ∉ js → e'[i]? = e[i]?) ∧ ∀ i ∈ js, ∀ c, e'[i]? ≠ some (.io c)
def TGs (Γ : List Cell) (g : List D → Env → Option Env) (ps : List (D → Prop)) (Γ' : List Cell) (js : List Nat) : Prop := ∀ e ds, Ok e Γ → AP ps ds → ∃ e', g ds e = some e' ∧ Ok e' Γ' ∧ e'.length = e.length ∧ (∀ i, i ∉ js → e'[i]? = e[i]?) ∧ ∀ i ∈ js, ∀ c, e'[i]? ≠ some (.io c)
theorem a2_ap : ∀ {ds : List D} {xs : List α}, A2 r ds xs → AP (xs.map fun a => at_ r a) ds
  | _, _, .nil => .nil
  | _, _, .cons a h => .cons a (a2_ap h)
theorem dT {xs : List α} : ∀ d, qT r d xs → ∃ ds, wk d = .tup ds ∧ AP (xs.map fun a => at_ r a) ds := fun d h => by
  obtain ⟨ds, e, h, _⟩ := h
  exact ⟨ds, e, a2_ap h⟩
theorem putNo_some {e : Env} {v : Nat} (hv : v < e.length) (hn : ∀ c, e[v]? ≠ some (.io c)) : putNo v e = some (e.set v .no) := by
  unfold putNo
  rw [List.getElem?_eq_getElem hv]
  cases z : e[v] with
  | io c => exact absurd (by rw [List.getElem?_eq_getElem hv, z]) (hn c)
  | _ => rfl
theorem wipe_all {e e1 : Env} : ∀ {vs : List Nat}, e1.length = e.length → (∀ v ∈ vs, v < e1.length ∧ ∀ c, e1[v]? ≠ some (.io c)) → ∃ e2, wipeE e1 vs = some e2 ∧ e2.length = e1.length ∧ ∀ i, e2[i]? = if i ∈ vs then some .no else e1[i]?
  | [], _, _ => ⟨e1, rfl, rfl, fun i => by simp⟩
  | v :: vs, hl, h => by
    obtain ⟨e2, h1, h2, h3⟩ := wipe_all (vs := vs) hl fun u hu => h u (List.mem_cons_of_mem _ hu)
    obtain ⟨a, b⟩ := h v List.mem_cons_self
    have hv : v < e2.length := by rw [h2]; exact a
    have hn : ∀ c, e2[v]? ≠ some (.io c) := fun c z => by
      rw [h3] at z
      split at z
      · cases z
      · exact b c z
    refine ⟨e2.set v .no, ?_, by rw [List.length_set, h2], fun i => ?_⟩
    · unfold wipeE
      rw [h1, Option.bind_some, putNo_some hv hn]
    · by_cases q : v = i
      · subst q
        rw [List.getElem?_set_self hv, if_pos List.mem_cons_self]
      · rw [List.getElem?_set_ne q, h3]
        by_cases k : i ∈ vs
        · rw [if_pos k, if_pos (List.mem_cons_of_mem _ k)]
        · rw [if_neg k, if_neg fun z => by
            rcases List.mem_cons.mp z with z | z
            · exact q z.symm
            · exact k z]
theorem wipe_back {e e1 : Env} {vs : List Nat} (hl : e1.length = e.length) (h : ∀ i, i ∉ vs → e1[i]? = e[i]?) (hn : ∀ v ∈ vs, e[v]? = some .no) (hi : ∀ v ∈ vs, ∀ c, e1[v]? ≠ some (.io c)) : wipeE e1 vs = some e := by
  obtain ⟨e2, h1, h2, h3⟩ := wipe_all (e := e) (vs := vs) hl fun v hv => ⟨by rw [hl]; exact (List.getElem?_eq_some_iff.mp (hn v hv)).1, hi v hv⟩
  rw [h1]
  congr 1
  refine List.ext_getElem? fun i => ?_
  rw [h3]
  by_cases k : i ∈ vs
  · rw [if_pos k, hn i k]
  · rw [if_neg k, h i k]
def NoAt (Γ : List Cell) (vs : List Nat) : Prop := ∀ v ∈ vs, Γ[v]? = some .n
theorem NoAt.no {e : Env} {vs : List Nat} (h : NoAt Γ vs) (he : Ok e Γ) : ∀ v ∈ vs, e[v]? = some .no := fun v hv => by
  obtain ⟨s, h1, h2⟩ := he.get (h v hv)
  cases h2; exact h1
theorem NoAt.wipe {e : Env} {vs : List Nat} (h : NoAt Γ vs) (he : Ok e Γ) : wipeE e vs = some e := wipe_back rfl (fun _ _ => rfl) (h.no he) fun v hv c z => by rw [h.no he v hv] at z; cases z
def SN (Γ : List Cell) (m : MS) (Γ' : List Cell) : Prop := ∀ e, Ok e Γ → ∃ e', m e = some (.nx, e') ∧ Ok e' Γ'
def SB (Γ : List Cell) (m : MS) (Γ' : List Cell) : Prop := ∀ e, Ok e Γ → ∃ e', m e = some (.bk, e') ∧ Ok e' Γ'
def SC (Γ : List Cell) (m : MS) (Γ' : List Cell) : Prop := ∀ e, Ok e Γ → ∃ e', m e = some (.ct, e') ∧ Ok e' Γ'
variable {q : Fl → Option D} {w : Option (D → Prop)} {wf : ρ → Option (D → Prop)}
theorem SN.le {a : MS} (h : SN Γ a Γ1) (l : Le Γ1 Γ') : SN Γ a Γ' := fun e he => by
  obtain ⟨e1, h1, h2⟩ := h e he
  exact ⟨e1, h1, h2.le l⟩
theorem SB.le {a : MS} (h : SB Γ a Γ1) (l : Le Γ1 Γ') : SB Γ a Γ' := fun e he => by
  obtain ⟨e1, h1, h2⟩ := h e he
  exact ⟨e1, h1, h2.le l⟩
theorem SC.le {a : MS} (h : SC Γ a Γ1) (l : Le Γ1 Γ') : SC Γ a Γ' := fun e he => by
  obtain ⟨e1, h1, h2⟩ := h e he
  exact ⟨e1, h1, h2.le l⟩
inductive PF : List (Str × (D → Prop)) → List (Str × D) → Prop
  | nil : PF [] []
  | cons {k : Str} {p : D → Prop} {d : D} {gs : List (Str × (D → Prop))} {fs : List (Str × D)} : p d → PF gs fs → PF ((k, p) :: gs) ((k, d) :: fs)
def putP (f : Str) (p : D → Prop) : List (Str × (D → Prop)) → List (Str × (D → Prop))
  | [] => [(f, p)]
  | (k, x) :: r => if k = f then (k, p) :: r else (k, x) :: putP f p r
theorem PF.put {f : Str} {p : D → Prop} {d : D} (h : p d) : ∀ {gs : List (Str × (D → Prop))} {fs : List (Str × D)}, PF gs fs → PF (putP f p gs) (putFD f d fs)
  | _, _, .nil => .cons h .nil
  | _, _, .cons (k := k) a q => by
    unfold putP putFD
    by_cases e : k = f
    · rw [if_pos e, if_pos e]; exact .cons h q
    · rw [if_neg e, if_neg e]; exact .cons a (q.put h)
theorem PF.len : ∀ {gs : List (Str × (D → Prop))} {fs : List (Str × D)}, PF gs fs → fs.length = gs.length
  | _, _, .nil => rfl
  | _, _, .cons _ q => by rw [List.length_cons, List.length_cons, q.len]
theorem PF.look {f : Str} {p : D → Prop} : ∀ {gs : List (Str × (D → Prop))} {fs : List (Str × D)}, PF gs fs → gs.lookup f = some p → ∃ d, fs.lookup f = some d ∧ p d
  | _, _, .nil, h => by cases h
  | _, _, .cons (k := k) hp q, h => by
    unfold List.lookup at h ⊢
    cases hk : f == k with
    | true => rw [hk] at h; cases h; exact ⟨_, rfl, hp⟩
    | false => rw [hk] at h; exact q.look h
end
end Dk
set_option exponentiation.threshold 256
namespace Dk
open PySem PySem.Spec PyProof.Rows L2
variable [TabP]
section
variable {Γ Γ' Γ0 Γ1 Γ2 : List Cell} {m ma mb : ME} {p pa pb : D → Prop} {α β γ δ σ ρ τ : Type} {r : Rep α} {s : Rep β} {t : Rep γ}
variable {q : Fl → Option D} {w : Option (D → Prop)} {wf : ρ → Option (D → Prop)}
theorem bs {o : Option α} {f : α → Option β} {b : β} (h : o.bind f = some b) : ∃ a, o = some a ∧ f a = some b := Option.bind_eq_some_iff.mp h
theorem seq_nx (m : MS) : seqM nxM m = m := rfl
end
end Dk
set_option exponentiation.threshold 500000
namespace Dk
open PySem PySem.Spec PyProof.Rows L2
variable [TabP]
section
variable {α β γ σ : Type}
theorem log2_lt {n k : Nat} (h : n < 2 ^ k) (hk : 0 < k) : n.log2 < k := by
  by_cases z : n = 0
  · subst z; exact hk
  · exact (Nat.log2_lt z).mpr h
inductive F2 {α β : Type} (R : α → β → Prop) : List α → List β → Prop
  | nil : F2 R [] []
  | cons {a : α} {b : β} {as : List α} {bs : List β} : R a b → F2 R as bs → F2 R (a :: as) (b :: bs)
end
end Dk
set_option exponentiation.threshold 256
namespace Dk
open PySem PySem.Spec PyProof.Rows L2
end Dk
set_option exponentiation.threshold 256
namespace Dk
open PySem PySem.Spec PyProof.Rows L2
end Dk
set_option exponentiation.threshold 256
namespace Dk
open PySem PySem.Spec PyProof.Rows L2
variable [TabP]
variable {K : PySem.W.Frag}
section
variable {α β : Type} {Γ Γ' Γ1 Γ2 : List Cell} {m ma mb mo : ME} {p pa pb : D → Prop} {r : Rep α} {s : Rep β}
/-- the parts of an f-string -/
inductive JL (Γ : List Cell) : List ME → List Tx → Prop
  | nil : JL Γ [] []
  | cons {m : ME} {ms : List ME} {x : Tx} {xs : List Tx} : Tv Γ m (at_ qS x) → JL Γ ms xs → JL Γ (m :: ms) (x :: xs)
theorem JL.ok {ms : List ME} {xs : List Tx} (h : JL Γ ms xs) {e : Env} (he : Ok e Γ) : ∀ x ∈ xs, okS x = true := by
  induction h with
  | nil => exact fun x hx => (List.not_mem_nil hx).elim
  | cons hm hr ih =>
    intro x hx
    rcases List.mem_cons.mp hx with rfl | hx
    · obtain ⟨l, d, h1, h2, rfl, hx⟩ := hm e he
      exact hx
    · exact ih x hx
end
end Dk
set_option exponentiation.threshold 256
namespace Dk
open PySem PySem.Spec PyProof.Rows L2
end Dk
set_option exponentiation.threshold 256
namespace Dk
open PySem PySem.Spec PyProof.Rows L2
variable [TabP]
variable {K : PySem.W.Frag}
def orE (m1 m2 : ME) : ME := fun e => match m1 e with
  | some r => some r
  | none => m2 e
theorem d_orE {X : Cx} {e : Expr} {m1 m2 : ME} (h1 : PE X e (rE X.K m1)) (h2 : PE X e (rE X.K m2)) : PE X e (rE X.K (orE m1 m2)) := ⟨fun pins s σ H Q I q => by
  obtain ⟨F0, Gd, ios, F, e0, os, l, e', W, hm, k⟩ := q
  unfold orE at hm
  split at hm
  · rename_i r hr
    cases hm
    exact h1.run pins s σ H Q I ⟨F0, Gd, ios, F, e0, os, l, e', W, hr, k⟩
  · exact h2.run pins s σ H Q I ⟨F0, Gd, ios, F, e0, os, l, e', W, hm, k⟩⟩
def mostI : Int → List Int → Int
  | x, [] => x
  | x, y :: r => mostI (if y > x then y else x) r
theorem mostI_mem : ∀ (x : Int) (r : List Int), mostI x r ∈ x :: r
  | x, [] => List.mem_cons_self
  | x, y :: r => by
    have := mostI_mem (if y > x then y else x) r
    show mostI (if y > x then y else x) r ∈ x :: y :: r
    rcases List.mem_cons.mp this with h | h
    · rw [h]
      by_cases hy : y > x
      · rw [if_pos hy]; exact List.mem_cons_of_mem _ List.mem_cons_self
      · rw [if_neg hy]; exact List.mem_cons_self
    · exact List.mem_cons_of_mem _ (List.mem_cons_of_mem _ h)
theorem mostI_ge : ∀ (x : Int) (r : List Int), x ≤ mostI x r ∧ ∀ y ∈ r, y ≤ mostI x r
  | x, [] => ⟨Int.le_refl x, fun _ h => (List.not_mem_nil h).elim⟩
  | x, y :: r => by
    obtain ⟨h1, h2⟩ := mostI_ge (if y > x then y else x) r
    show x ≤ mostI (if y > x then y else x) r ∧ ∀ z ∈ y :: r, z ≤ mostI (if y > x then y else x) r
    have h3 : x ≤ (if y > x then y else x) ∧ y ≤ (if y > x then y else x) := by split <;> omega
    refine ⟨Int.le_trans h3.1 h1, fun z hz => ?_⟩
    rcases List.mem_cons.mp hz with rfl | hz
    · exact Int.le_trans h3.2 h1
    · exact h2 z hz
def maxL : List D → Option D
  | [.lst ds] => (intsD ds).bind fun ns => match ns with
    | [] => none
    | x :: r => some (.int (mostI x r))
  | _ => none
theorem opA_maxL : OpA K (rMax K) maxL := fun {F H xs ds d Q} s b hd q => by
  unfold maxL at hd
  split at hd
  · rename_i ds
    obtain ⟨ns, h1, h2⟩ := Option.bind_eq_some_iff.mp hd
    cases b with
    | cons b1 b2 =>
      cases b2
      obtain ⟨a, vs, rfl, ha, r⟩ := b1.isLst s
      rw [intsD_iff h1] at r
      rw [r.ofInts] at ha
      cases ns with
      | nil => cases h2
      | cons x t =>
        cases h2
        refine ⟨a, x :: t, rfl, .inl (.inl ha), Nat.succ_pos _, fun m hm hle => ?_⟩
        obtain ⟨l1, l2⟩ := mostI_ge x t
        have e : m = mostI x t := by
          have a1 : mostI x t ≤ m := hle _ (mostI_mem x t)
          have a2 : m ≤ mostI x t := (List.mem_cons.mp hm).elim (fun z => z ▸ l1) (l2 m)
          omega
        rw [e]
        exact q F H _ (Ext.refl s) (.int _)
  · cases hd
theorem d_maxL {X : Cx} {e : Expr} {es : List Expr} {pos p : Pos} {mr : MA} (hc : X.calm = true) (hm : X.mg "max" = none) (ha : PA X (e :: es) (rA X.K mr)) (hg : Gl X "max" := by rfl) (he : starEach (e :: es) X.env = (false, eval e X.env) :: starEach es X.env := by rfl) (hpl : (backTo pos (starEach es X.env)).any (·.1) = false := by rfl) :
    PE X (.Call (.Name "max" p) (e :: es) [] pos) (rE X.K (cbM maxL mr)) := d_cb (cr_max hc) opA_maxL hm (by decide +kernel) ha hg (by decide) (by decide) he hpl
end Dk
set_option exponentiation.threshold 256
namespace Dk
open PySem PySem.Spec PyProof.Rows L2
variable [TabP]
variable {K : PySem.W.Frag}
def downD (i : Int) (n : Nat) : List D := (List.range n).map fun (k : Nat) => D.int (i + (k : Int) * (-1))
theorem it_down {F : Hp} (i : Int) (n : Nat) : ItOk K F (Itc i (-1) n) (downD i n) := fun F' H k s1 s2 =>
  ⟨fun d hd => by
    unfold downD at hd
    rw [List.getElem?_map] at hd
    obtain ⟨c, hc, rfl⟩ := Option.map_eq_some_iff.mp hd
    obtain ⟨h1, h2⟩ := List.getElem?_eq_some_iff.mp hc
    rw [List.getElem_range] at h2
    rw [List.length_range] at h1
    subst h2
    refine ⟨h1, fun v H' hq => ?_⟩
    obtain ⟨rfl, rfl⟩ := hq
    exact ⟨F', Ext.refl s2, .int _⟩, fun hn => by
    unfold downD at hn
    rw [List.length_map, List.length_range] at hn
    exact Nat.le_of_eq hn.symm⟩
def itRd (m : MA) : MI := fun e => (m e).bind fun p => (rds p.2 p.1).bind fun ds => match ds with
  | [a, b, c] => (asI a).bind fun i => (asI b).bind fun j => (asI c).bind fun k => (okB ((rgOk i && rgOk j) && decide (k = -1))).map fun _ => (downD i (i - j).toNat, p.2)
  | _ => none
theorem sim_itRd {t : TA} {m : MA} (h : SimA K t m) : SimI K (iRng3 t) (itRd m) := ⟨fun {F0 Gd ios F H σ e os ds e' R} W hm q => by
  unfold itRd at hm
  obtain ⟨⟨ls, e1⟩, h1, hm⟩ := Option.bind_eq_some_iff.mp hm
  obtain ⟨ds1, h2, hm⟩ := Option.bind_eq_some_iff.mp hm
  refine h.run W h1 fun F1 H1 os1 xs W1 s1 k1 => ?_
  have b := W1.bwL k1 h2
  simp only at hm
  split at hm
  · cases b with
    | cons b1 b =>
      cases b with
      | cons b2 b =>
        cases b with
        | cons b3 b =>
          cases b
          obtain ⟨n, h3, hm⟩ := Option.bind_eq_some_iff.mp hm
          obtain ⟨n2, h5, hm⟩ := Option.bind_eq_some_iff.mp hm
          obtain ⟨n3, h6, hm⟩ := Option.bind_eq_some_iff.mp hm
          obtain ⟨u, h4, hm⟩ := Option.map_eq_some_iff.mp hm
          cases hm
          cases asI_iff h3
          cases asI_iff h5
          cases asI_iff h6
          cases b1.isInt
          cases b2.isInt
          cases b3.isInt
          have z := Bool.and_eq_true_iff.mp (okB_iff h4)
          have e3 : n3 = -1 := of_decide_eq_true z.2
          subst e3
          have z0 := Bool.and_eq_true_iff.mp z.1
          have z1 := Bool.and_eq_true_iff.mp z0.1
          have z2 := Bool.and_eq_true_iff.mp z0.2
          exact ⟨n, n2, -1, (n - n2).toNat, rfl, RgC.neg (of_decide_eq_true z1.1) (of_decide_eq_true z1.2) (of_decide_eq_true z2.1) (of_decide_eq_true z2.2), q F1 H1 os1 _ W1 s1 (it_down _ _)⟩
  · cases hm⟩
theorem i_rngd {X : Cx} {tg a b c : Expr} {pos p : Pos} {mr : MA} (hm : X.mg "range" = none) (ha : PA X [a, b, c] (rA X.K mr)) (hg : Gl X "range" := by rfl) (hs : starEach [a, b, c] X.env = (false, eval a X.env) :: starEach [b, c] X.env := by rfl) (hpl : (backTo pos (starEach [b, c] X.env)).any (·.1) = false := by rfl) :
    PI X tg (.Call (.Name "range" p) [a, b, c] [] pos) (rIt X.K (itRd mr)) := toI (pi_range3 hg hm ha hs hpl) (sim_itRd sim_rA)
end Dk
set_option exponentiation.threshold 256
namespace Dk
open PySem PySem.Spec PyProof.Rows L2
end Dk
set_option exponentiation.threshold 256
namespace Dk
open PySem PySem.Spec PyProof.Rows L2
variable [TabP]
section
variable {α : Type} {Γ Γ' Γ1 : List Cell} {r : Rep α}
def oc (r : Rep α) : Option α → Cell
  | none => .n
  | some v => vl r v
variable {β : Type} {s : Rep β} {m : ME}
variable {Γ2 : List Cell} {q : Fl → Option D} {w : Option (D → Prop)} {p : D → Prop}
end
end Dk
set_option exponentiation.threshold 256
namespace Dk
open PySem PySem.Spec PyProof.Rows L2
end Dk
set_option exponentiation.threshold 256
namespace Dk
open PySem PySem.Spec PyProof.Rows L2
end Dk
set_option exponentiation.threshold 256
namespace Dk
open PySem PySem.Spec PyProof.Rows L2
variable [TabP]
variable {K : PySem.W.Frag}
def tLk (t : TE) : TE := fun σ H Q => t σ H fun x H1 => Q x H1 ∨ ∃ d u, H1 d = some u ∧ Mut (some u) ∧ ∀ od, Q x (upd H1 d (.frz od u))
theorem pe_lk {X : Cx} {e : Expr} {t : TE} (h : PE X e t) : PE X e (tLk t) := ⟨fun pins s σ H Q I q => thn (h.run pins s σ H _ I q) fun u s1 ⟨x, H1, I1, r, q⟩ => by
  rcases q with q | ⟨d, v, hd, mu, q⟩
  · exact ⟨x, H1, I1, r, q⟩
  · obtain ⟨od, I2⟩ := I1.lock hd mu
    exact ⟨x, _, I2, r, q od⟩⟩
theorem sm_lock {F : Hp} {a : Addr} {od : Obj} {kvs : List (Key × V)} (h : F a = some (.dK kvs)) : Sm F (upd F a (.frz od (.dK kvs))) := fun b o e => by
  by_cases y : b = a
  · subst y
    rw [h] at e; cases e
    exact .inr ⟨od, trivial, upd_same⟩
  · rw [upd_ne y]; exact .inl e
theorem WOk.lock {F0 Gd F H : Hp} {ios os : List (Option Addr)} {σ : L2.St} {e : Env} {a : Addr} {od : Obj} {kvs : List (Key × V)} (W : WOk K F0 Gd ios F H σ e os) (h : F a = some (.dK kvs)) : WOk K F0 Gd ios (upd F a (.frz od (.dK kvs))) (upd H a (.frz od (.dK kvs))) σ e os := by
  have s := sm_lock (od := od) h
  refine ⟨same_upd2 W.fh, W.f0.trans s, fun b o q => ?_, W.le, W.lo, fun j t q => ?_, W.ds, W.io, ⟨fun b xs q => ?_, fun b ps q => ?_, tabs_upd W.tp.tb fun u z => by rw [W.fh _ _ h] at z; cases z; exact ⟨fun _ z => (nomatch z), fun _ z => (nomatch z)⟩⟩, W.ng⟩
  · obtain ⟨h1, h2, h3⟩ := W.gd b o q
    have y : b ≠ a := fun y => by subst y; rw [h] at h2; cases h2
    exact ⟨by rw [upd_ne y]; exact h1, by rw [upd_ne y]; exact h2, h3⟩
  · have z := W.sl j t q
    have keep : ∀ p d, Ob K F H p d → Ob K (upd F a (.frz od (.dK kvs))) (upd H a (.frz od (.dK kvs))) p d := fun p d ob => by
      have y : p ≠ a := fun y => by subst y; have := ob.1; rw [h] at this; cases this
      exact ob.keep s (upd_ne y) (by rw [upd_ne y]; exact ob.1)
    cases t with
    | no => exact z
    | fn kf =>
      obtain ⟨a1, b1, c, m, r⟩ := z
      have ne : (TabP.fns kf).fc ≠ a := fun y => by rw [y, h] at m; cases m
      exact ⟨a1, b1, by rw [upd_ne ne]; exact c, by rw [upd_ne ne]; exact m, r.mono s⟩
    | fz c => obtain ⟨a1, y, b1, r⟩ := z; exact ⟨a1, y, b1, r.mono s⟩
    | ow c => obtain ⟨b, a1, b1, ob⟩ := z; exact ⟨b, a1, b1, keep _ _ ob⟩
    | io c => obtain ⟨b, a1, b1, ob⟩ := z; exact ⟨b, a1, b1, keep _ _ ob⟩
  · by_cases y : b = a
    · subst y; rw [upd_same] at q; cases q
    · rw [upd_ne y] at q ⊢; exact W.tp.tup b xs q
  · by_cases y : b = a
    · subst y; rw [upd_same] at q; cases q; exact ⟨fun _ z => (nomatch z), fun _ z => (nomatch z)⟩
    · rw [upd_ne y] at q; exact W.tp.nt b ps q
theorem RpK.get {F : Hp} : ∀ {kvs : List (Key × V)} {es : List (Key × D)} {i : Nat} {p : Key × D}, RpK K F kvs es → es[i]? = some p → ∃ v, kvs[i]? = some (p.1, v) ∧ Rp K F v p.2
  | _, _, i, p, .nil, e => by simp at e
  | _, _, 0, p, .cons h _, e => by simp at e; subst e; exact ⟨_, rfl, h⟩
  | _, _, i + 1, p, .cons _ r, e => by
    obtain ⟨v, h1, h2⟩ := RpK.get (i := i) (p := p) r (by simpa using e)
    exact ⟨v, by simpa using h1, h2⟩
/-- taken, and locked -/
theorem lk_run {t : TE} {m : ME} (h : SimE K t m) {F0 Gd : Hp} {ios : List (Option Addr)} {F H : Hp} {σ : L2.St} {e : Env} {os : List (Option Addr)} {l : L} {e1 e2 : Env} {es : List (Key × D)} {R : V → Hp → Prop} (W : WOk K F0 Gd ios F H σ e os) (h1 : m e = some (l, e1)) (h2 : tk e1 l = some (.dic es, e2))
    (q : ∀ F' H' os' a o kvs, WOk K F0 Gd ios F' H' σ e2 os' → Sm F F' → F' a = some (.frz o (.dK kvs)) → RpK K F' kvs es → R (.ref a) H') : tLk t σ H R := by
  refine h.run W h1 fun F1 H1 os1 x W1 s1 k1 => ?_
  obtain ⟨F2, os2, W2, s2, r⟩ := W1.take k1 h2
  cases r with
  | @dic a kvs _ hr rk =>
    rcases hr with hr | ⟨o, hr⟩
    · exact .inr ⟨a, _, W2.fh _ _ hr, trivial, fun od => q _ _ os2 a od kvs (W2.lock hr) ((s1.trans s2).trans (sm_lock hr)) upd_same (rk.mono (sm_lock hr))⟩
    · exact .inl (q F2 H1 os2 a o kvs W2 (s1.trans s2) hr rk)
def dicT : D → Option (List (Key × D))
  | .dic es => some es
  | _ => none
theorem dicT_iff {d : D} {es : List (Key × D)} (h : dicT d = some es) : d = .dic es := by
  cases d <;> first | (cases h; done) | skip
  cases h; rfl
def dvM (g : Key × D → D) (m : ME) : MI := fun e => (m e).bind fun p => (tk p.2 p.1).bind fun q => (dicT q.1).map fun es => (es.map g, q.2)
theorem dv_inv {g : Key × D → D} {m : ME} {e e2 : Env} {ds : List D} (h : dvM g m e = some (ds, e2)) : ∃ l e1 es, m e = some (l, e1) ∧ tk e1 l = some (.dic es, e2) ∧ ds = es.map g := by
  unfold dvM at h
  obtain ⟨⟨l, e1⟩, h1, h⟩ := Option.bind_eq_some_iff.mp h
  obtain ⟨⟨d, e3⟩, h2, h⟩ := Option.bind_eq_some_iff.mp h
  obtain ⟨es, h3, h⟩ := Option.map_eq_some_iff.mp h
  cases h
  cases dicT_iff h3
  exact ⟨l, e1, es, h1, h2, rfl⟩
/-- for k, v in d.items() -/
def itemsM (m : ME) : MI := dvM (fun p => .hup [kD p.1, p.2]) m
theorem sim_items {t : TE} {m : ME} (h : SimE K t m) : SimI K (iItems (tLk t)) (itemsM m) := ⟨fun {F0 Gd ios F H σ e os ds e' R} W hm q => by
  obtain ⟨l, e1, es, h1, h2, rfl⟩ := dv_inv hm
  refine lk_run h W h1 h2 fun F' H' os' a o kvs W' s hf rk => ⟨a, o, kvs, rfl, W'.fh _ _ hf, q F' H' os' _ W' s fun F2 H2 i s2 fh2 => ⟨fun d hd => ?_, fun hi => ?_⟩⟩
  · have hl : i < es.length := by
      have := (List.getElem?_eq_some_iff.mp hd).1
      rwa [List.length_map] at this
    rw [List.getElem?_map, List.getElem?_eq_getElem hl] at hd
    cases hd
    refine ⟨⟨fh2 _ _ (s2.at hf), by rw [rk.length]; exact hl⟩, fun x H3 hy => ?_⟩
    obtain ⟨T, k, v, e1, rfl, hn, rfl⟩ := hy
    obtain ⟨w, e2, rw'⟩ := rk.get (List.getElem?_eq_getElem hl)
    rw [e1] at e2; cases e2
    have x := Ext.new (o := .tup [kV es[i].1, v]) fh2 hn
    exact ⟨_, x, .hup upd_same (.cons (kD_rp _) (.cons ((rw'.mono s2).mono x.f) .nil))⟩
  · rw [List.length_map] at hi
    exact ⟨fh2 _ _ (s2.at hf), by rw [rk.length, hi]; exact Nat.le_refl _⟩⟩
/-- for v in d.values() -/
def valuesM (m : ME) : MI := dvM (fun p => p.2) m
theorem sim_values {t : TE} {m : ME} (h : SimE K t m) : SimI K (iVals (tLk t)) (valuesM m) := ⟨fun {F0 Gd ios F H σ e os ds e' R} W hm q => by
  obtain ⟨l, e1, es, h1, h2, rfl⟩ := dv_inv hm
  refine lk_run h W h1 h2 fun F' H' os' a o kvs W' s hf rk => ⟨a, o, kvs, rfl, W'.fh _ _ hf, q F' H' os' _ W' s fun F2 H2 i s2 fh2 => ⟨fun d hd => ?_, fun hi => ?_⟩⟩
  · have hl : i < es.length := by
      have := (List.getElem?_eq_some_iff.mp hd).1
      rwa [List.length_map] at this
    rw [List.getElem?_map, List.getElem?_eq_getElem hl] at hd
    cases hd
    refine ⟨⟨fh2 _ _ (s2.at hf), by rw [rk.length]; exact hl⟩, fun x H3 hy => ?_⟩
    obtain ⟨rfl, k, e1⟩ := hy
    obtain ⟨w, e2, rw'⟩ := rk.get (List.getElem?_eq_getElem hl)
    rw [e1] at e2; cases e2
    exact ⟨F2, Ext.refl fh2, rw'.mono s2⟩
  · rw [List.length_map] at hi
    exact ⟨fh2 _ _ (s2.at hf), by rw [rk.length, hi]; exact Nat.le_refl _⟩⟩
/-- for k in d -/
def keysM (m : ME) : MI := dvM (fun p => kD p.1) m
theorem sim_keys {t : TE} {m : ME} (h : SimE K t m) : SimI K (iKeys (tLk t)) (keysM m) := ⟨fun {F0 Gd ios F H σ e os ds e' R} W hm q => by
  obtain ⟨l, e1, es, h1, h2, rfl⟩ := dv_inv hm
  refine lk_run h W h1 h2 fun F' H' os' a o kvs W' s hf rk => ⟨a, o, rfl, .inl ⟨kvs, W'.fh _ _ hf, q F' H' os' _ W' s fun F2 H2 i s2 fh2 => ⟨fun d hd => ?_, fun hi => ?_⟩⟩⟩
  · have hl : i < es.length := by
      have := (List.getElem?_eq_some_iff.mp hd).1
      rwa [List.length_map] at this
    rw [List.getElem?_map, List.getElem?_eq_getElem hl] at hd
    cases hd
    refine ⟨⟨fh2 _ _ (s2.at hf), by rw [rk.length]; exact hl⟩, fun x H3 hy => ?_⟩
    obtain ⟨rfl, k, v, e1, rfl⟩ := hy
    obtain ⟨w, e2, rw'⟩ := rk.get (List.getElem?_eq_getElem hl)
    rw [e1] at e2; cases e2
    exact ⟨F2, Ext.refl fh2, kD_rp _⟩
  · rw [List.length_map] at hi
    exact ⟨fh2 _ _ (s2.at hf), by rw [rk.length, hi]; exact Nat.le_refl _⟩⟩
section
variable {X : Cx} {e : Expr} {m : ME} {apos cpos pos p : Pos}
theorem i_items {elts : List Expr} {kk : Nat} {tpos : Pos} (he : PE X e (rE X.K m)) (hbase : attributeBase e "items" X.env (eval e X.env) = eval e X.env := by rfl) (hline : (apos.endLine == cpos.line) = true := by rfl) :
    PI X (.Tuple elts kk tpos) (.Call (.Attribute e "items" apos) [] [] cpos) (rIt X.K (itemsM m)) := toI (pi_items (pe_lk he) hbase hline) (sim_items sim_rE)
theorem i_values {tg : Expr} (he : PE X e (rE X.K m)) (hbase : attributeBase e "values" X.env (eval e X.env) = eval e X.env := by rfl) (hline : (apos.endLine == cpos.line) = true := by rfl) :
    PI X tg (.Call (.Attribute e "values" apos) [] [] cpos) (rIt X.K (valuesM m)) := toI (pi_values (pe_lk he) hbase hline) (sim_values sim_rE)
theorem i_keys {tg : Expr} (he : PE X e (rE X.K m)) : PI X tg e (rIt X.K (keysM m)) := toI (pi_keys (pe_lk he)) (sim_keys sim_rE)
end
def dicC : List D → Option D
  | [.dic es] => some (.dic es)
  | _ => none
theorem opAN_dicC : OpAN K (fun xs H Q => ∃ (a : Addr) (kvs : List (Key × V)), xs = [.ref a] ∧ Rd H a (.dK kvs) ∧ ∀ p, H p = none → Q (.ref p) (upd H p (.dK kvs))) dicC := fun {F H xs ds d Q} s b hd q => by
  unfold dicC at hd
  split at hd
  · cases hd
    obtain ⟨x, rfl, b1⟩ := b.one
    obtain ⟨a, kvs, rfl, ha, rk⟩ := b1.isDic s
    exact ⟨a, kvs, rfl, ha, fun p hp => q p _ hp ⟨s.free hp, kvs, upd_same, rk⟩⟩
  · cases hd
def lstKD : List D → Option D
  | [.dic es] => some (.lst (es.map fun p => kD p.1))
  | _ => none
theorem RpK.keysL {F : Hp} : ∀ {kvs : List (Key × V)} {es : List (Key × D)}, RpK K F kvs es → RpL K F (kvs.map fun kv => kV kv.1) (es.map fun p => kD p.1)
  | _, _, .nil => .nil
  | _, _, .cons (k := k) _ r => .cons (kD_rp k) r.keysL
theorem opAN_lstK : OpAN K (fun xs H Q => ∃ (a : Addr) (kvs : List (Key × V)), xs = [.ref a] ∧ Rd H a (.dK kvs) ∧ ∀ p, H p = none → Q (.ref p) (upd H p (.lst (kvs.map fun kv => kV kv.1)))) lstKD := fun {F H xs ds d Q} s b hd q => by
  unfold lstKD at hd
  split at hd
  · cases hd
    obtain ⟨x, rfl, b1⟩ := b.one
    obtain ⟨a, kvs, rfl, ha, rk⟩ := b1.isDic s
    exact ⟨a, kvs, rfl, ha, fun p hp => q p _ hp ⟨s.free hp, _, upd_same, rk.keysL⟩⟩
  · cases hd
/-- list(d.items()) -/
def tLI (t : TE) : TE := fun σ H Q => t σ H fun x H1 => ∃ (a : Addr) (kvs : List (Key × V)), x = .ref a ∧ Rd H1 a (.dK kvs) ∧
  ∀ (H' : Hp) (p : Addr) (ts : List Addr), (∀ b o, H1 b = some o → H' b = some o) → H1 p = none → (∀ t ∈ ts, H1 t = none) → p ∉ ts → H' p = some (.lst (ts.map V.ref)) → Paired (fun (t : Addr) (q : Key × V) => H' t = some (.tup [kV q.1, q.2])) ts kvs → Q (.ref p) H'
theorem pe_listI {X : Cx} {e : Expr} {t : TE} {p apos cpos pos : Pos} (hc : X.calm = true) (he : PE X e t) (hm : X.mg "list" = none) (hg : Gl X "list" := by rfl) (hbase : attributeBase e "items" X.env (eval e X.env) = eval e X.env := by rfl) (hline : (apos.endLine == cpos.line) = true := by rfl)
    (hs : starEach [.Call (.Attribute e "items" apos) [] [] cpos] X.env = (false, eval (.Call (.Attribute e "items" apos) [] [] cpos) X.env) :: starEach [] X.env := by rfl) :
    PE X (.Call (.Name "list" p) [.Call (.Attribute e "items" apos) [] [] cpos] [] pos) (tLI t) := ⟨fun pins s σ H Q I q => by
  apply wpAny_Call_Name_kw
  apply ld_blt I hg hm (show bootBuiltins "list" = some (.type "list") by decide +kernel)
  refine PyProof.Rows.callWith_type1 ?_ hs rfl; rw [hs]
  show wpAny _ _ (spliced (_ :: backTo pos (starEach [] X.env))) _ _ s
  apply Calls.spliced_cons
  have run := he.run pins s σ H _ I q
  refine wpAny_Call_method (T := "dict") (id := "dict.items") hbase rfl hline F.plainAttrs_dict F.slot_dict_items F.type_dict_items (thn run ?_)
  rintro u s1 ⟨x, H1, I1, rx, a, kvs, rfl, hd, q⟩
  cases (show u = Value.ref a from rx)
  obtain ⟨hz, lo, vs, kv, hdo⟩ := dk_rd I1.hok hd
  obtain ⟨ep, hat⟩ := hdo.dictAt
  have lk : kvs.length = vs.length := kv.length
  refine ⟨hdo.typeIs, hdo.mapOf.noDict, ?_⟩
  have I2 : Inv X pins σ H1 { s1 with heap := s1.heap.push { cls := .type "dict_items", data := .fields #[.ref a] } } := I1.kept (t' := s1.toks) fun b ob y => Heap.get?_push_of_some _ y
  show wpAny _ _ (callWith cpos (.builtin "dict.items") [.ref a] [] []) _ X.xe s1
  refine method_meetsIn F.slot_dict_items F.entry_dict_items rfl (PySem.evalArgs_none ⟨rfl, hdo.typeIs, F.args_dict_items_1 _, _, meets_dict_items (mixKind X.prog X.w) a lo, ⟨vs, hdo⟩, ?_⟩)
  apply Calls.spliced_nil
  refine PySem.W.kdx_call (knd := mixKind X.prog X.w) (kvs := vs) (ep := ep) (I1.ok.hd hc) ⟨_, Heap.get?_push_size _ rfl, rfl, rfl⟩ (hat.push _) (by omega) fun h' tk acc c as y1 y2 y3 y4 y5 => ?_
  obtain ⟨H', k1, k2, k3, k4, k5, k6, J⟩ := LiI.items_laid (tk := tk) I2 hz kv y1 y2 y3 y4 y5
  exact ⟨.ref _, H', J, rfl, q H' _ as k1 k2 k3 k4 k5 k6⟩⟩
open Classical in
noncomputable def frzN (F H H' : Hp) : Hp := fun b => if H b = none ∧ ∃ xs, H' b = some (.tup xs) then H' b else F b
theorem frzN_new {F H H' : Hp} {b : Addr} {xs : List V} (h : H b = none) (e : H' b = some (.tup xs)) : frzN F H H' b = some (.tup xs) := by
  unfold frzN
  rw [if_pos ⟨h, xs, e⟩]; exact e
theorem frzN_old {F H H' : Hp} {b : Addr} (h : ¬ (H b = none ∧ ∃ xs, H' b = some (.tup xs))) : frzN F H H' b = F b := by
  unfold frzN
  rw [if_neg h]
theorem ext_frzN {F H H' : Hp} (s : Same F H) (hk : ∀ b o, H b = some o → H' b = some o) : Ext F H (frzN F H H') H' where
  f := .of fun b o q => by rw [frzN_old fun z => by rw [s b o q] at z; cases z.1]; exact q
  h := fun b o q _ _ => hk b o q
  fh := fun b o q => by
    by_cases z : H b = none ∧ ∃ xs, H' b = some (.tup xs)
    · obtain ⟨h1, xs, h2⟩ := z
      rw [frzN_new h1 h2] at q; cases q; exact h2
    · rw [frzN_old z] at q
      exact hk b o (s b o q)
  n := fun b o q n _ => by rw [frzN_old fun z => by rw [q] at z; cases z.1]; exact n
  tp := fun tp => ⟨fun b xs q => by
    by_cases z : H b = none
    · exact frzN_new z q
    · rw [frzN_old fun y => z y.1]
      cases w : H b with
      | none => exact absurd w z
      | some o =>
        have := hk b o w
        rw [q] at this; cases this
        exact tp.tup b xs w, fun b ps q => by
    by_cases z : H b = none ∧ ∃ xs, H' b = some (.tup xs)
    · obtain ⟨h1, xs, h2⟩ := z
      rw [frzN_new h1 h2] at q; cases q; exact ⟨fun _ z => (nomatch z), fun _ z => (nomatch z)⟩
    · rw [frzN_old z] at q
      exact tp.nt b ps q, tp.tb.ext hk⟩
def liM (m : ME) : MN := fun e => (m e).bind fun p => (rd p.2 p.1).bind fun d => (dicT d).map fun es => (.lst (es.map fun p => .hup [kD p.1, p.2]), p.2)
theorem pairs_rp {F F' H' : Hp} (s : Sm F F') : ∀ {ts : List Addr} {kvs : List (Key × V)} {es : List (Key × D)}, Paired (fun (t : Addr) (q : Key × V) => H' t = some (.tup [kV q.1, q.2])) ts kvs → (∀ t ∈ ts, ∀ xs, H' t = some (.tup xs) → F' t = some (.tup xs)) → RpK K F kvs es → RpL K F' (ts.map V.ref) (es.map fun p => .hup [kD p.1, p.2])
  | _, _, _, .nil, _, .nil => .nil
  | _, _, _, .cons h t, g, .cons r rk => .cons (.hup (g _ List.mem_cons_self _ h) (.cons (kD_rp _) (.cons (r.mono s) .nil))) (pairs_rp s t (fun b hb => g b (List.mem_cons_of_mem _ hb)) rk)
theorem sim_li {t : TE} {m : ME} (h : SimE K t m) : SimN K (tLI t) (liM m) := ⟨fun {F0 Gd ios F H σ e os d e' Q} W hm q => by
  unfold liM at hm
  obtain ⟨⟨l, e1⟩, h1, hm⟩ := Option.bind_eq_some_iff.mp hm
  obtain ⟨c, h2, hm⟩ := Option.bind_eq_some_iff.mp hm
  obtain ⟨es, h3, hm⟩ := Option.map_eq_some_iff.mp hm
  cases hm
  cases dicT_iff h3
  refine h.run W h1 fun F1 H1 os1 x W1 s1 k1 => ?_
  obtain ⟨a, kvs, rfl, ha, rk⟩ := (W1.bw k1 h2).isDic W1.fh
  refine ⟨a, kvs, rfl, ha, fun H' p ts hk hp hn hpt hl hT => ?_⟩
  have x := ext_frzN W1.fh hk
  have fp : frzN F1 H1 H' p = none := by
    rw [frzN_old fun z => by obtain ⟨_, xs, y⟩ := z; rw [hl] at y; cases y]
    exact W1.fh.free hp
  exact q _ H' os1 p (W1.ext x) (s1.trans x.f) ⟨⟨fp, _, hl, pairs_rp x.f hT (fun b hb xs y => frzN_new (hn b hb) y) rk⟩, W1.noGd hp, W1.notOwn hp⟩⟩
section
variable {X : Cx} {e : Expr} {es : List Expr} {m : ME} {mr : MA} {apos cpos pos p : Pos}
theorem d_listI (hc : X.calm = true) (hm : X.mg "list" = none) (he : PE X e (rE X.K m)) (hg : Gl X "list" := by rfl) (hbase : attributeBase e "items" X.env (eval e X.env) = eval e X.env := by rfl) (hline : (apos.endLine == cpos.line) = true := by rfl)
    (hs : starEach [.Call (.Attribute e "items" apos) [] [] cpos] X.env = (false, eval (.Call (.Attribute e "items" apos) [] [] cpos) X.env) :: starEach [] X.env := by rfl) :
    PE X (.Call (.Name "list" p) [.Call (.Attribute e "items" apos) [] [] cpos] [] pos) (rN X.K (liM m)) := toN (pe_listI hc he hm hg hbase hline hs) (sim_li sim_rE)
theorem d_dictC (hm : X.mg "dict" = none) (ha : PA X (e :: es) (rA X.K mr)) (hg : Gl X "dict" := by rfl) (he : starEach (e :: es) X.env = (false, eval e X.env) :: starEach es X.env := by rfl) (hpl : (backTo pos (starEach es X.env)).any (·.1) = false := by rfl) :
    PE X (.Call (.Name "dict" p) (e :: es) [] pos) (rN X.K (cbN dicC mr)) := d_ctN call_dictD opAN_dicC hm (by decide +kernel) ha hg (by decide) (by decide) he hpl
theorem d_listK (hc : X.calm = true) (hm : X.mg "list" = none) (ha : PA X (e :: es) (rA X.K mr)) (hg : Gl X "list" := by rfl) (he : starEach (e :: es) X.env = (false, eval e X.env) :: starEach es X.env := by rfl) (hpl : (backTo pos (starEach es X.env)).any (·.1) = false := by rfl) :
    PE X (.Call (.Name "list" p) (e :: es) [] pos) (rN X.K (cbN lstKD mr)) := d_ctN (call_listD hc) opAN_lstK hm (by decide +kernel) ha hg (by decide) (by decide) he hpl
end
end Dk
set_option exponentiation.threshold 256
namespace Dk
open PySem PySem.Spec PyProof.Rows L2
end Dk
set_option exponentiation.threshold 256
namespace Dk
open PySem PySem.Spec PyProof.Rows L2
variable [TabP]
variable {K : PySem.W.Frag}
section
variable {X : Cx} {pins : List (Addr × Obj)} {σ : L2.St} {F H : Hp} {s : Shared}
inductive RdL (h : Heap) : List Value → List PyData → List Addr → Prop
  | nil : RdL h [] [] []
  | cons {v : Value} {vs : List Value} {d : PyData} {ds : List PyData} {as bs : List Addr} : Reads h v d as → (d.hasDict = true → sysModules ∉ as) → RdL h vs ds bs → RdL h (v :: vs) (d :: ds) (as ++ bs)
theorem RdL.all {h : Heap} : ∀ {vs : List Value} {ds : List PyData} {as : List Addr}, RdL h vs ds as → ReadsAll h vs ds as
  | _, _, _, .nil => .nil
  | _, _, _, .cons r _ q => .cons r q.all
end
end Dk
set_option exponentiation.threshold 256
namespace Dk
open PySem PySem.Spec PyProof.Rows L2
end Dk
set_option exponentiation.threshold 256
namespace Dk
open PySem PySem.Spec PyProof.Rows L2
variable [TabP]
variable {K : PySem.W.Frag}
theorem signs_vals : ∀ {cs : List Nat} {us : List Value}, us.length = cs.length → (∀ (i : Nat) (u : Value), us[i]? = some u → ∃ c t, cs[i]? = some c ∧ u = .str ⟨#[c]⟩ t) → Vals (cs.map fun c => V.str ⟨#[c]⟩) us
  | [], us, hl, _ => by
    have e : us = [] := List.length_eq_zero_iff.mp hl
    subst e
    exact .nil
  | c :: cs, [], hl, _ => by simp at hl
  | c :: cs, u :: us, hl, h => by
    obtain ⟨d, t, e1, e2⟩ := h 0 u rfl
    have e3 : c = d := by simpa using e1
    subst e3
    exact .cons ⟨t, e2⟩ (signs_vals (by simpa using hl) fun i w hw => h (i + 1) w (by simpa using hw))
theorem call_listT {X : Cx} (hc : X.calm = true) : CallR X (.type "list") (fun xs H Q => ∃ z : Str, xs = [V.str z] ∧ z.cps.size ≤ sizeLine ∧ ∀ p, H p = none → Q (.ref p) (upd H p (.lst (sgV z)))) := by
  intro pins s σ H xs us Q I r h
  obtain ⟨z, rfl, hz, q⟩ := h
  obtain ⟨u, rfl, ru⟩ := vals1 r
  obtain ⟨t, rfl⟩ := ru
  refine PySem.call_list_str (hn := hz) (I.ok.hd hc) z t fun h' tk acc c' hk hS hacc => ?_
  have hl : acc.toList.length = z.cps.toList.length := by rw [Array.length_toList, Array.length_toList]; exact hacc.1
  have hv : Vals (sgV z) acc.toList := signs_vals hl fun i w hw => by
    obtain ⟨c, t, e1, e2⟩ := hacc.2 i w (by rw [← Array.getElem?_toList]; exact hw)
    exact ⟨c, t, by rw [Array.getElem?_toList]; exact e1, e2⟩
  have ok : ObjOk X.prog X.w (upd H s.heap.objs.size (.lst (sgV z))) h' s.heap.objs.size (.lst (sgV z)) := ⟨by unfold sgV; rw [List.length_map, Array.length_toList]; exact hz, acc.toList, c', hv, by rw [Array.toArray_toList]; exact hS⟩
  exact ⟨.ref s.heap.objs.size, _, I.laid (t' := tk) (o := .lst (sgV z)) hk (Nat.le_refl _) ok, rfl, q _ (I.hok.fresh (Nat.le_refl _))⟩
def lstX : List D → Option D
  | [.str z] => (okB (few z.cps.size)).map fun _ => .lst (signs z)
  | ds => listD ds
theorem opAN_lstX : OpAN K (fun xs H Q => (∃ p ys, xs = [.ref p] ∧ (SqL K H p ys ∨ SqT K H p ys) ∧ ∀ l, H l = none → Q (.ref l) (upd H l (.lst ys))) ∨ ∃ z : Str, xs = [V.str z] ∧ z.cps.size ≤ sizeLine ∧ ∀ p, H p = none → Q (.ref p) (upd H p (.lst (sgV z)))) lstX := fun {F H xs ds d Q} s b hd q => by
  unfold lstX at hd
  split at hd
  · obtain ⟨_, h1, hd⟩ := Option.map_eq_some_iff.mp hd
    cases hd
    obtain ⟨x, rfl, b1⟩ := b.one
    cases b1.isStr
    exact .inr ⟨_, rfl, few_ok (okB_iff h1), fun p n => q p _ n ⟨s.free n, _, upd_same, RpL.sg _⟩⟩
  · exact .inl (opAN_list s b hd q)
section
variable {X : Cx} {e : Expr} {es : List Expr} {mr : MA} {pos p : Pos}
theorem d_listX (hc : X.calm = true) (hm : X.mg "list" = none) (ha : PA X (e :: es) (rA X.K mr)) (hg : Gl X "list" := by rfl) (he : starEach (e :: es) X.env = (false, eval e X.env) :: starEach es X.env := by rfl) (hpl : (backTo pos (starEach es X.env)).any (·.1) = false := by rfl) :
    PE X (.Call (.Name "list" p) (e :: es) [] pos) (rN X.K (cbN lstX mr)) := d_ctN (call_list_of.or (call_listT hc)) opAN_lstX hm (by decide +kernel) ha hg (by decide) (by decide) he hpl
end
end Dk
set_option exponentiation.threshold 256
namespace Dk
open PySem PySem.Spec PyProof.Rows L2
variable [TabP]
section
variable {α β γ ρ : Type} {r : Rep α} {Γ Γ1 Γ2 : List Cell} {m ma mb mi : ME} {pa pb p : D → Prop}
def dsGet (xs : List (Tx × α)) (k : Tx) : Option α := (xs.find? fun p => decide (p.1 = k)).map (·.2)
def dsPut (xs : List (Tx × α)) (k : Tx) (a : α) : List (Tx × α) := if (xs.any fun p => decide (p.1 = k)) = true then xs.map (fun p => if p.1 = k then (p.1, a) else p) else xs ++ [(k, a)]
def dsMerge (xs ys : List (Tx × α)) : List (Tx × α) := ys.foldl (fun acc kv => dsPut acc kv.1 kv.2) xs
theorem keyd (k j : Tx) : decide ((Sum.inr (mkS k) : Key) = .inr (mkS j)) = decide (k = j) := decide_eq_decide.mpr ⟨fun h => mkS_inj (Sum.inr.inj h), fun h => by rw [h]⟩
theorem A2K.get {k : Tx} : ∀ {es : List (Key × D)} {xs : List (Tx × α)}, A2K r es xs → (valD es (.inr (mkS k))).isSome = (dsGet xs k).isSome ∧ ∀ a, dsGet xs k = some a → ∃ d, valD es (.inr (mkS k)) = some d ∧ r d a
  | _, _, .nil => ⟨rfl, fun a h => by cases h⟩
  | _, _, .cons (k := j) _ h q => by
    obtain ⟨q1, q2⟩ := q.get (k := k)
    unfold valD dsGet at *
    by_cases e : j = k
    · subst e
      rw [List.find?_cons_of_pos (by simp), List.find?_cons_of_pos (by simp)]
      exact ⟨rfl, fun a z => by cases z; exact ⟨_, rfl, h⟩⟩
    · have e2 : ¬ decide ((Sum.inr (mkS j) : Key) = .inr (mkS k)) = true := by rw [keyd]; simpa using e
      rw [List.find?_cons_of_neg (p := fun p : Key × D => decide (p.1 = .inr (mkS k))) e2, List.find?_cons_of_neg (by simpa using e)]
      exact ⟨q1, q2⟩
theorem A2K.any {k : Tx} : ∀ {es : List (Key × D)} {xs : List (Tx × α)}, A2K r es xs → (es.any fun p => decide (p.1 = .inr (mkS k))) = (xs.any fun p => decide (p.1 = k))
  | _, _, .nil => rfl
  | _, _, .cons _ _ q => by rw [List.any_cons, List.any_cons, q.any, keyd]
theorem A2K.app : ∀ {es fs : List (Key × D)} {xs ys : List (Tx × α)}, A2K r es xs → A2K r fs ys → A2K r (es ++ fs) (xs ++ ys)
  | _, _, _, _, .nil, h => h
  | _, _, _, _, .cons o a h, k => .cons o a (h.app k)
theorem A2K.rep {k : Tx} {d : D} {a : α} (hd : r d a) : ∀ {es : List (Key × D)} {xs : List (Tx × α)}, A2K r es xs → A2K r (es.map fun p => if p.1 = .inr (mkS k) then (p.1, d) else p) (xs.map fun p => if p.1 = k then (p.1, a) else p)
  | _, _, .nil => .nil
  | _, _, .cons (k := j) o h q => by
    rw [List.map_cons, List.map_cons]
    by_cases e : j = k
    · subst e
      rw [if_pos rfl, if_pos rfl]; exact .cons o hd (A2K.rep hd q)
    · rw [if_neg fun z => e (mkS_inj (Sum.inr.inj z)), if_neg e]; exact .cons o h (A2K.rep hd q)
theorem A2K.put {es : List (Key × D)} {xs : List (Tx × α)} {k : Tx} {d : D} {a : α} (h : A2K r es xs) (hk : okS k = true) (hd : r d a) : A2K r (putD es (.inr (mkS k)) d) (dsPut xs k a) := by
  unfold putD dsPut
  rw [h.any]
  split
  · exact h.rep hd
  · exact h.app (.cons hk hd .nil)
theorem A2K.merge : ∀ {fs : List (Key × D)} {ys : List (Tx × α)} {es : List (Key × D)} {xs : List (Tx × α)}, A2K r es xs → A2K r fs ys → A2K r (mergeD es fs) (dsMerge xs ys)
  | _, _, _, _, h, .nil => h
  | _, _, _, _, h, .cons o d q => by
    have z := A2K.merge (h.put o d) q
    exact z
end
end Dk
set_option exponentiation.threshold 256
namespace Dk
open PySem PySem.Spec PyProof.Rows L2
variable [TabP]
section
variable {α β γ ρ σ : Type} {r : Rep α} {Γ Γ1 Γ2 Γ' : List Cell} {m ma mb mi : ME} {pa pb p : D → Prop}
/-- the pairs of a display, one behind the other: keys are texts -/
inductive EPs : List Cell → List (ME × ME) → List Tx → List (D → Prop) → List Cell → Prop
  | nil {Γ : List Cell} : EPs Γ [] [] [] Γ
  | cons {Γ : List Cell} {mk mv : ME} {k : Tx} {q : D → Prop} {ms : List (ME × ME)} {ks : List Tx} {qs : List (D → Prop)} {Γ1 Γ2 : List Cell} : Tv Γ mk (at_ qS k) → Ev Γ mv q Γ1 → EPs Γ1 ms ks qs Γ2 → EPs Γ ((mk, mv) :: ms) (k :: ks) (q :: qs) Γ2
def ilv : List Tx → List D → List D
  | k :: ks, d :: ds => .str (mkS k) :: d :: ilv ks ds
  | _, _ => []
theorem EPs.run : ∀ {ms : List (ME × ME)} {ks : List Tx} {qs : List (D → Prop)} {Γ Γ' : List Cell}, EPs Γ ms ks qs Γ' → ∀ e, Ok e Γ → ∃ ls ds e', flatM ms e = some (ls, e') ∧ Ok e' Γ' ∧ Kp Γ Γ' e e' ∧ StbL Γ' e' ls (ilv ks ds) ∧ AP qs ds ∧ ds.length = ks.length ∧ ∀ k ∈ ks, okS k = true
  | _, _, _, _, _, .nil, e, he => ⟨[], [], e, rfl, he, Kp.refl _ _, .nil, .nil, rfl, fun _ h => (List.not_mem_nil h).elim⟩
  | _, _, _, _, _, .cons (mk := mk) (mv := mv) (ms := ms) (k := k) hk hv hr, e, he => by
    obtain ⟨l, d, h1, h2, rfl, ok⟩ := hk e he
    obtain ⟨l2, d2, e2, k1, k2, k3, k4, k5⟩ := hv e he
    obtain ⟨ls, ds, e3, j1, j2, j3, j4, j5, j6, j7⟩ := hr.run e2 k2
    refine ⟨l :: l2 :: ls, d2 :: ds, e3, ?_, j2, k4.trans j3, .cons ((h2.kp k4).kp j3) (.cons (k3.kp j3) j4), .cons k5 j5, by rw [List.length_cons, List.length_cons, j6], fun x hx => by
      rcases List.mem_cons.mp hx with rfl | hx
      · exact ok
      · exact j7 x hx⟩
    show consA mk (consA mv (flatM ms)) e = _
    unfold consA
    rw [h1, Option.bind_some]
    dsimp only
    rw [k1, Option.bind_some]
    dsimp only
    rw [j1]; rfl
end
end Dk
set_option exponentiation.threshold 256
namespace Dk
open PySem PySem.Spec PyProof.Rows L2
end Dk
set_option exponentiation.threshold 256
namespace Dk
open PySem PySem.Spec PyProof.Rows L2
variable [TabP]
section
variable {α β γ ρ : Type} {r : Rep α} {s : Rep β} {Γ Γ1 Γ2 Γ3 Γ' : List Cell} {m ma mb mk m2 : ME} {pa pb pc p : D → Prop}
def shT (p : PyData) : Tx := p.shown.cps.toList
def rpO (p : PyData) : Option Tx := if (p.showable && (decide (p.depth ≤ 60) && okS (shT p))) = true then some (shT p) else none
end
end Dk
set_option exponentiation.threshold 256
namespace Dk
open PySem PySem.Spec PyProof.Rows L2
variable [TabP]
section
variable {α β γ ρ : Type} {r : Rep α} {Γ Γ1 Γ2 Γ' : List Cell} {m ma mb : ME} {pa pb p : D → Prop}
inductive TPs : List Cell → List (ME × ME) → List Tx → List (D → Prop) → Prop
  | nil {Γ : List Cell} : TPs Γ [] [] []
  | cons {Γ : List Cell} {mk mv : ME} {k : Tx} {q : D → Prop} {ms : List (ME × ME)} {ks : List Tx} {qs : List (D → Prop)} : Tv Γ mk (at_ qS k) → Tv Γ mv q → TPs Γ ms ks qs → TPs Γ ((mk, mv) :: ms) (k :: ks) (q :: qs)
theorem TPs.run : ∀ {ms : List (ME × ME)} {ks : List Tx} {qs : List (D → Prop)} {Γ : List Cell}, TPs Γ ms ks qs → ∀ e, Ok e Γ → ∃ ls ds, flatM ms e = some (ls, e) ∧ StbL Γ e ls (ilv ks ds) ∧ AP qs ds ∧ ds.length = ks.length ∧ ∀ k ∈ ks, okS k = true
  | _, _, _, _, .nil, e, he => ⟨[], [], rfl, .nil, .nil, rfl, fun _ h => (List.not_mem_nil h).elim⟩
  | _, _, _, _, .cons (mk := mk) (mv := mv) (ms := ms) (k := k) hk hv hr, e, he => by
    obtain ⟨l, d, h1, h2, rfl, ok⟩ := hk e he
    obtain ⟨l2, d2, k1, k3, k5⟩ := hv e he
    obtain ⟨ls, ds, j1, j4, j5, j6, j7⟩ := hr.run e he
    refine ⟨l :: l2 :: ls, d2 :: ds, ?_, .cons h2 (.cons k3 j4), .cons k5 j5, by rw [List.length_cons, List.length_cons, j6], fun x hx => by
      rcases List.mem_cons.mp hx with rfl | hx
      · exact ok
      · exact j7 x hx⟩
    show consA mk (consA mv (flatM ms)) e = _
    unfold consA
    rw [h1, Option.bind_some]
    dsimp only
    rw [k1, Option.bind_some]
    dsimp only
    rw [j1]; rfl
theorem FnC.v {f : MS} {pi po p : D → Prop} {ps : List (D → Prop)} (h : FnC resN f pi ps p po) : FnC resV f pi ps p po := fun c ds hc hd => by
  obtain ⟨fl, c', e, d, h1, h2, h3, h4⟩ := h c ds hc hd
  exact ⟨fl, c', e, d, h1, resN_V h2, h3, h4⟩
end
end Dk
set_option exponentiation.threshold 256
namespace Dk
open PySem PySem.Spec PyProof.Rows L2
variable [TabP]
def GT (n : Nat) (s : Str) : Prop := s.cps.toList.length ≤ n ∧ ∀ c ∈ s.cps.toList, c < 1114112
theorem GT.mono {n m : Nat} {s : Str} (h : GT n s) (l : n ≤ m) : GT m s := ⟨Nat.le_trans h.1 l, h.2⟩
theorem app_list (a b : Str) : (a ++ b).cps.toList = a.cps.toList ++ b.cps.toList := by
  show (Str.append a b).cps.toList = _
  unfold Str.append
  exact Array.toList_append
theorem GT.app {n m : Nat} {a b : Str} (h : GT n a) (k : GT m b) : GT (n + m) (a ++ b) := by
  constructor
  · rw [app_list, List.length_append]; exact Nat.add_le_add h.1 k.1
  · rw [app_list]
    intro c hc
    rcases List.mem_append.mp hc with q | q
    · exact h.2 c q
    · exact k.2 c q
/-- what can be shown, in at most n signs -/
structure Sw (n k : Nat) (p : PyData) : Prop where
  sw : p.showable = true
  de : p.depth ≤ k
  le : GT n p.shown
theorem Sw.mono {n m k l : Nat} {p : PyData} (h : Sw n k p) (hl : n ≤ m) (hk : k ≤ l) : Sw m l p := ⟨h.sw, Nat.le_trans h.de hk, h.le.mono hl⟩
theorem Sw.rp {n k : Nat} {p : PyData} (h : Sw n k p) (hn : n ≤ 1000000) (hk : k ≤ 60) : rpO p = some (shT p) := by
  unfold rpO
  have e : okS (shT p) = true := okS_of (Nat.le_trans h.le.1 hn) h.le.2
  rw [h.sw, e, decide_eq_true (Nat.le_trans h.de hk)]; rfl
end Dk
set_option exponentiation.threshold 256
namespace Dk
open PySem PySem.Spec PyProof.Rows L2
end Dk
set_option exponentiation.threshold 10000
namespace Dk
open PySem PySem.Spec PyProof.Rows L2
end Dk
set_option exponentiation.threshold 256
namespace Dk
open PySem PySem.Spec PyProof.Rows L2
variable [TabP]
def plD : D → Bool
  | .int _ => true
  | .bl _ => true
  | .str _ => true
  | .non => true
  | _ => false
section
variable {K : PySem.W.Frag}
theorem Bw.plain {F H F' : Hp} {x : V} {d : D} (h : Bw K F H x d) (hp : plD d = true) : Rp K F' x d := by
  cases d <;> first | (cases hp; done) | skip
  · rw [h.isNon]; exact .non
  · rw [h.isBl]; exact .bl _
  · rw [h.isInt]; exact .int _
  · rw [h.isStr]; exact .str _
def getD2 : D → D → D → Option D
  | .dic es, k, x => (keyD k).bind fun k => match valD es k with
    | some d => some d
    | none => if plD x = true then some x else none
  | _, _, _ => none
def dicB : D → Option Unit
  | .dic _ => some ()
  | _ => none
/-- d.get(k, x) -/
def getM2 (mo mk mx : ME) : ME := fun e => (mo e).bind fun p => (rd p.2 p.1).bind fun z => (dicB z).bind fun _ => (mk p.2).bind fun q => (mx q.2).bind fun r => (rd r.2 p.1).bind fun a => (rd r.2 q.1).bind fun k => (rd r.2 r.1).bind fun x => (getD2 a k x).map fun d => (.v d, r.2)
theorem sim_get2 {td ty tx : TE} {mo mk mx : ME} (ho : SimE K td mo) (hk : SimE K ty mk) (hx : SimE K tx mx) : SimE K (tDGet2 td ty tx) (getM2 mo mk mx) := ⟨fun {F0 Gd ios F H σ e os l e' Q} W hm q => by
  unfold getM2 at hm
  obtain ⟨⟨l1, e1⟩, h1, hm⟩ := Option.bind_eq_some_iff.mp hm
  obtain ⟨z, hz, hm⟩ := Option.bind_eq_some_iff.mp hm
  obtain ⟨_, hb, hm⟩ := Option.bind_eq_some_iff.mp hm
  obtain ⟨⟨l2, e2⟩, h2, hm⟩ := Option.bind_eq_some_iff.mp hm
  obtain ⟨⟨l3, e3⟩, h3, hm⟩ := Option.bind_eq_some_iff.mp hm
  obtain ⟨a, ra, hm⟩ := Option.bind_eq_some_iff.mp hm
  obtain ⟨k, rk, hm⟩ := Option.bind_eq_some_iff.mp hm
  obtain ⟨x, rx, hm⟩ := Option.bind_eq_some_iff.mp hm
  obtain ⟨d, hd, hm⟩ := Option.map_eq_some_iff.mp hm
  cases hm
  refine ho.run W h1 fun F1 H1 os1 v1 W1 s1 k1 => ?_
  cases z <;> first | (cases hb; done) | skip
  rename_i zs
  obtain ⟨ad, kv0, rfl, had, _⟩ := (W1.bw k1 hz).isDic W1.fh
  refine ⟨ad, rfl, .inl ⟨kv0, had⟩, ?_⟩
  refine hk.run W1 h2 fun F2 H2 os2 v2 W2 s2 k2 => ?_
  refine hx.run W2 h3 fun F3 H3 os3 v3 W3 s3 k3 => ?_
  have ba := W3.bw ((k1.mono s2).mono s3) ra
  have bk := W3.bw (k2.mono s3) rk
  have bx := W3.bw k3 rx
  unfold getD2 at hd
  split at hd
  · rename_i es _ _
    obtain ⟨key, hk1, hd⟩ := Option.bind_eq_some_iff.mp hd
    obtain ⟨a', kvs, ea, ha, r⟩ := ba.isDic W3.fh
    cases ea
    have e := keyD_bw bk hk1
    subst e
    refine ⟨valV kvs key, dgetR ha, ?_⟩
    have rv := RpK.val (k := key) r
    split at hd
    · rename_i d' hv
      cases hd
      obtain ⟨v, h5, h6⟩ := rv.2 _ hv
      rw [h5]
      exact q F3 H3 os3 v W3 ((s1.trans s2).trans s3) h6
    · rename_i hv
      by_cases hp : plD x = true
      · rw [if_pos hp] at hd
        cases hd
        have e0 : valV kvs key = none := by
          have := rv.1
          rw [hv] at this
          cases hvv : valV kvs key with
          | none => rfl
          | some w => rw [hvv] at this; cases this
        rw [e0]
        exact q F3 H3 os3 v3 W3 ((s1.trans s2).trans s3) (bx.plain hp)
      · rw [if_neg hp] at hd
        cases hd
  · cases hd⟩
variable {X : Cx} {o e f : Expr} {apos cpos : Pos} {mo mk mx : ME}
theorem d_get2 {k : Nat} (hr : Room k X.A) (ho : PE X o (rE X.K mo)) (hk : PE X e (rE X.K mk)) (hx : PE X f (rE X.K mx)) (m : M2 X o "get" apos e f cpos) : PE X (.Call (.Attribute o "get" apos) [e, f] [] cpos) (rE X.K (getM2 mo mk mx)) := toE (pe_dget2 (by have := hr.units; omega) ho hk hx m) (sim_get2 sim_rE sim_rE sim_rE)
end
end Dk
set_option exponentiation.threshold 256
namespace Dk
open PySem
open PySem.Sem (wp)
open PySem PySem.Spec PyProof.Rows L2
section
variable {prog : Program} {w : World} {K : Type} [DecidableEq K] {knd : KeyKind prog w K} {A : Around} {E : Value → Shared → Prop} {s : Shared}
theorem put_pairs {d : Addr} {kvs : List (K × Value)} {k : K} {key v : Value} {Q : Unit → Shared → Prop} (hkey : knd.is k key = true) (hm : s.heap.DictOf knd d kvs)
    (hQ : ∀ h', h'.DictOf knd d (stored kvs k v) → Heap.SameBut d s.heap h' → Q () { s with heap := h' })
    (hsz : kvs.length ≤ sizeLine) :
    wpAny (model prog w) A (dictPut d (knd.hash k) key v) Q E s := by
  obtain ⟨o, es, ep, ho, hc, hd, hk, hp, hn⟩ := hm
  have hes : es.size ≤ sizeLine := by have e1 := hp.length; have e2 : es.toList.length = es.size := by simp
                                      omega
  unfold dictPut
  refine wpAny_bind (wpAny_dictFind_of hkey ho hd hk ?_)
  have hidx : (es.findIdx? fun e => knd.is k e.key) = kvs.findIdx? fun kv => decide (kv.1 = k) := by
    rw [← hp.findIdx k]; obtain ⟨l⟩ := es; simp
  cases hi : es.findIdx? fun e => knd.is k e.key with
  | some i =>
    refine wpAny_updateDict ho hd (hQ _ ⟨_, _, ep, Heap.get?_update_self _ ho (Obj.isFreed_of_dict (Obj.data_mapDict hd _)),
      hc.mapDict _, Obj.data_mapDict hd _, hk.modify _ _, ?_, ?_⟩ (Heap.SameBut.update ..))
    · rw [stored, if_pos (any_of_findIdx_some (hidx ▸ hi))]
      have hl : (es.toList.findIdx? fun e => knd.is k e.key) = some i := by rw [← hi]; obtain ⟨l⟩ := es; simp
      have := hp.modify hn hl v
      obtain ⟨l⟩ := es
      simpa using this
    · rw [stored, if_pos (any_of_findIdx_some (hidx ▸ hi)), keys_map_store]; exact hn
  | none =>
    have hnot : k ∉ kvs.map (·.1) := not_mem_of_findIdx_none (hidx ▸ hi)
    have hany : ¬ (kvs.any fun kv => decide (kv.1 = k)) = true := by
      rw [List.any_eq_true]; rintro ⟨kv, hkv, he⟩
      exact hnot (List.mem_map.mpr ⟨kv, hkv, of_decide_eq_true he⟩)
    refine wpAny_updateDictKeys (hz := hes) ho hd (hQ _ ⟨_, _, ep + 1, Heap.get?_update_self _ ho (Obj.isFreed_of_dict (Obj.data_mapDictKeys hd _)),
      hc.mapDictKeys _, Obj.data_mapDictKeys hd _, hk.push hkey _, ?_, ?_⟩ (Heap.SameBut.update ..))
    · rw [stored, if_neg hany]
      have := hp.append hkey (knd.hash k) v
      obtain ⟨l⟩ := es
      simpa using this
    · rw [stored, if_neg hany, List.map_append, List.nodup_append]
      refine ⟨hn, by simp, ?_⟩
      intro a ha b hb
      simp only [List.map_cons, List.map_nil, List.mem_singleton] at hb
      subst hb
      exact fun e => hnot (e ▸ ha)
end
end Dk
namespace Dk
open PySem
open PySem.Sem (wp)
open PySem PySem.Spec PyProof.Rows L2
section
variable {prog : Program} {w : World} {K : Type} [DecidableEq K] {knd : KeyKind prog w K} {A : Around} {E : Value → Shared → Prop} {s : Shared}
theorem merge_map {d o : Addr} {kvs more : List (K × Value)} {Q : Unit → Shared → Prop} (hdo : d ≠ o) (hoS : (o == sysModules) = false) (hnr : ∀ k v, knd.is k v = true → ∀ a, v ≠ Value.ref a)
    (hd : s.heap.DictOf knd d kvs) (ho : s.heap.DictOf knd o more)
    (hQ : ∀ h', h'.DictOf knd d (merged kvs more) → h'.DictOf knd o more → Heap.SameBut d s.heap h' → Q () { s with heap := h' })
    (hsz : kvs.length + more.length ≤ sizeLine) :
    wpAny (model prog w) A (mergeMapping d (.ref o) false) Q E s := by
  obtain ⟨od, esd, epd, hod, hcd, hdd, hkd, hpd, hnd⟩ := id hd
  have hty := ho.typeIs
  obtain ⟨oo, eso, epo, hoo, hco, hdo', hko, hpo, hno⟩ := id ho
  have hlen : more.length = eso.size := by rw [← hpo.length]; simp
  unfold mergeMapping
  refine wpAny_bind (wpAny_isInstance hty isSubtype_dict_dict ?_)
  dsimp only
  rw [if_pos rfl]
  refine wpAny_bind (wpAny_specialOf hty F.slot_dict_iter.lookup (wpAny_bind (wpAny_pure ?_)))
  rw [show (some (Value.builtin "dict.__iter__") == some (Value.builtin "dict.__iter__")) = true from beq_self_eq_true _]
  dsimp only
  rw [if_neg (by rw [hoS]; exact Bool.false_ne_true)]
  refine wpAny_bind (wpAny_dictEntries hod hdd ?_)
  have loop : wpAny (model prog w) A (do
      let l ← dictEntries o
      let size : Nat := l.size
      let epoch ← dictEpoch o
      forIn (List.range size) PUnit.unit fun i (_ : PUnit) => (do
          let l' ← dictEntries o
          match l'[i]? with
            | some e => do
              holding [e.key, e.val] (dictPut d e.hash e.key e.val)
              let ep' ← dictEpoch o
              if (ep' != epoch) = true then do
                  (unsupported "dict.changed-during-merge" : Sem PUnit)
                  pure (ForInStep.yield PUnit.unit)
                else pure (ForInStep.yield PUnit.unit)
            | _ => do
              (unsupported "dict.changed-during-merge" : Sem PUnit)
              pure (ForInStep.yield PUnit.unit) : Sem (ForInStep PUnit))
      pure ()) Q E s := by
    refine wpAny_bind (wpAny_dictEntries hoo hdo' ?_)
    dsimp only
    refine wpAny_bind (wpAny_dictEpoch hoo hdo' ?_)
    refine wpAny_bind ?_
    rw [List.range_eq_range']
    refine wpAny_forIn_list _
      (fun rest _ s' => ∃ h' i, s' = { s with heap := h' } ∧ rest = List.range' i (eso.size - i) ∧ i ≤ eso.size ∧ h'.DictOf knd d (merged kvs (more.take i)) ∧ h'.get? o = some oo ∧ Heap.SameBut d s.heap h')
      _ ?_ ?_ _ _ ⟨s.heap, 0, rfl, by simp, Nat.zero_le _, by simpa [merged] using hd, hoo, Heap.SameBut.refl _ _⟩
    · rintro x rest b s' ⟨h', i, rfl, hr, hi, hd', hoo', hs'⟩
      have hlt : i < eso.size := by
        rcases Nat.lt_or_ge i eso.size with h | h
        · exact h
        · rw [Nat.sub_eq_zero_of_le h] at hr; simp at hr
      obtain ⟨rfl, hrest⟩ : x = i ∧ rest = List.range' (i + 1) (eso.size - (i + 1)) := by
        have e : eso.size - i = (eso.size - (i + 1)) + 1 := by omega
        rw [e, List.range'_succ] at hr
        injection hr with h1 h2
        exact ⟨h1, h2⟩
      refine wpAny_bind (wpAny_dictEntries hoo' hdo' ?_)
      rw [Array.getElem?_eq_getElem hlt]
      obtain ⟨kv, hkv⟩ : ∃ kv, more[x]? = some kv := ⟨more[x]'(by rw [hlen]; exact hlt), List.getElem?_eq_getElem _⟩
      obtain ⟨k, v⟩ := kv
      obtain ⟨hkey, hval⟩ := hpo.get? (e := eso[x]) (by simp [hlt]) hkv
      obtain ⟨k', hkey', hhash⟩ := hko eso[x] (Array.getElem_mem hlt)
      obtain rfl : k' = k := knd.inj _ _ _ hkey' hkey
      show wpAny _ _ (holding [eso[x].key, eso[x].val] (dictPut d eso[x].hash eso[x].key eso[x].val) >>= _) _ _ _
      rw [hhash, hval]
      have hmx : (merged kvs (more.take x)).length ≤ sizeLine := by
        have e1 := merged_length_le kvs (more.take x)
        have e2 : (more.take x).length ≤ more.length := by rw [List.length_take]; omega
        omega
      refine wpAny_bind (wpAny_holding (put_pairs (hsz := hmx) hkey hd' fun h'' hd'' hs'' => ?_))
      have hoo'' : h''.get? o = some oo := (hs''.2 o (Ne.symm hdo)).trans hoo'
      refine wpAny_bind (wpAny_dictEpoch hoo'' hdo' ?_)
      rw [if_neg (by simp)]
      exact wpAny_pure ⟨h'', x + 1, rfl, hrest, hlt, by rw [merged_take_succ kvs more x (k', v) hkv]; exact hd'', hoo'', hs'.trans hs''⟩
    · rintro b s' ⟨h', i, rfl, hr, hi, hd', hoo', hs'⟩
      have hin : i = eso.size := by
        rcases Nat.lt_or_ge i eso.size with h | h
        · have e : eso.size - i = (eso.size - (i + 1)) + 1 := by omega
          rw [e, List.range'_succ] at hr; exact nomatch hr
        · exact Nat.le_antisymm hi h
      refine wpAny_pure (hQ h' ?_ ⟨oo, eso, epo, hoo', hco, hdo', hko, hpo, hno⟩ hs')
      rw [hin, ← hlen, List.take_length] at hd'; exact hd'
  by_cases hemp : esd.isEmpty = true
  · rw [if_pos hemp]
    refine wpAny_bind (wpAny_dictEntries hoo hdo' ?_)
    refine wpAny_bind ?_
    rw [← Array.forIn_toList]
    refine wpAny_forIn_list _ (fun rest _ s' => s' = s ∧ ∀ e ∈ rest, e ∈ eso) _ ?_ ?_ _ _ ⟨rfl, fun e he => Array.mem_toList_iff.mp he⟩
    · rintro e rest b s' ⟨rfl, hr⟩
      obtain ⟨k', hkey', hhash⟩ := hko e (hr e List.mem_cons_self)
      have := hnr k' e.key hkey'
      split
      · rename_i a ha
        exact absurd ha (this a)
      · exact wpAny_pure ⟨rfl, fun x hx => hr x (List.mem_cons_of_mem _ hx)⟩
    · rintro b s' ⟨rfl, _⟩
      exact loop
  · rw [if_neg hemp]
    exact loop
end
end Dk
set_option exponentiation.threshold 256
namespace Dk
open PySem PySem.Spec PyProof.Rows L2
section
variable {X : Cx} {pins : List (Addr × Obj)} {σ : L2.St} {H : Hp} {s : Shared} {A : Around} {E : Value → Shared → Prop}
theorem kV_noref {P : Program} {w : World} : ∀ (k : Key) (v : Value), (mixKind P w).is k v = true → ∀ a, v ≠ Value.ref a := fun k v h a e => by
  subst e
  cases k <;> cases h
/-- a dict is put into a new one -/
theorem put_in {p a : Addr} {m kvs : List (Key × V)} {Q : Unit → Shared → Prop} (I : Inv X pins σ H s) (hp : H p = some (.dK m)) (ha : Rd H a (.dK kvs)) (hne : p ≠ a) (hl : m.length + kvs.length ≤ sizeLine)
    (h : ∀ s', Inv X pins σ (upd H p (.dK (mergeK m kvs))) s' → Q () s') : wpAny (model X.prog X.w) A (mergeMapping p (.ref a) false) Q E s := by
  obtain ⟨z1, hd1, vs1, r1, dd1⟩ := dk_of I.hok hp
  obtain ⟨z2, hd2, vs2, r2, dd2⟩ := dk_rd I.hok ha
  refine merge_map (knd := mixKind X.prog X.w) hne hd2 kV_noref dd1 dd2 (fun h' dd' _ hs => ?_) (by rw [← r1.length, ← r2.length]; exact hl)
  have hz : (mergeK m kvs).length ≤ sizeLine := Nat.le_trans (length_mergeK kvs m) hl
  have he : ∃ q, h'.get? p = some q := let ⟨q, _, _, hq, _⟩ := dd'; ⟨q, hq⟩
  exact h _ (d_write (t' := s.toks) I (by rw [hp]; exact True.intro) hs he (dk_new hz hd1 (r2.merge r1) dd'))
/-- the pairs of a display, as a dict of their own -/
theorem sub_in {pos : Pos} {keys : List (Option Expr)} {values : List Expr} {trs : List (TE × TE)} {Q : Addr → Hp → Prop} (h : PPs X pos keys values trs) (hall : keys.all (·.isSome) = true) (hl : keys.length = values.length) (h0 : keys ≠ []) (h15 : keys.length ≤ 15) (I : Inv X pins σ H s)
    (q : ∀ r, H r = none → tPairs trs σ (upd H r (.dK [])) fun ps H2 => H2 r = some (.dK []) ∧ ∃ kvs : List (Key × V), ps = kvs.map (fun kv => (kV kv.1, kv.2)) ∧ kvs.length ≤ 15 ∧ Q r (upd H2 r (.dK (mergeK [] kvs)))) :
    wpAny (model X.prog X.w) X.A (subDict (pairTrees keys values X.env pos)) (fun r s' => ∃ H', Inv X pins σ H' s' ∧ Q r H') X.xe s := by
  have hn := I.hok.fresh (Nat.le_refl s.heap.objs.size)
  have I1 := I.laid (a := s.heap.objs.size) (o := .dK []) (h' := s.heap.push { cls := .type "dict", data := .dict #[] }) (t' := s.toks) (fun _ _ q => Heap.get?_push_of_some _ q) (Nat.le_refl _) (dk_empty s.heap I.big)
  have hlen : (pairTrees keys values X.env pos).length ≤ 15 := by rw [pairTrees_length keys values X.env pos hall hl]; exact h15
  refine wpAny_subDict (knd := mixKind X.prog X.w) hlen (thn (h.run pins _ σ _ _ I1 (q _ hn)) fun ws s2 ⟨ps, H2, I2, rel, e, kvs, ep, lk, q2⟩ => ?_)
  subst ep
  obtain ⟨rs, c, rk⟩ := carries_of (P := X.prog) (w := X.w) rel
  obtain ⟨z, hd, vs0, r0, dd⟩ := dk_of I2.hok e
  cases r0
  refine ⟨rs, c, dd, fun h' dd' hs => ⟨_, ?_, q2⟩⟩
  have hz : (mergeK [] kvs).length ≤ sizeLine := by
    have h1 := length_mergeK kvs []
    rw [List.length_nil] at h1
    rw [sizeLine_eq]; omega
  have he : ∃ q, h'.get? s.heap.objs.size = some q := let ⟨q, _, _, hq, _⟩ := dd'; ⟨q, hq⟩
  exact d_write I2 (by rw [e]; exact True.intro) hs he (dk_new hz hd (rk.merge .nil) dd')
end
end Dk
namespace Dk
open PySem PySem.Spec PyProof.Rows L2
theorem gatherD (d : Addr) (f : (Option (Sem Value) × Sem Value) → (Option Addr × List (Sem Value × Sem Value)) → Sem (ForInStep (Option Addr × List (Sem Value × Sem Value))))
    (hf : ∀ (p : Sem Value × Sem Value) (run : List (Sem Value × Sem Value)), run.length + 1 < 17 → f (some p.1, p.2) (some d, run) = pure (.yield (some d, run ++ [p]))) :
    ∀ (items run : List (Sem Value × Sem Value)), run.length + items.length < 17 → forIn (items.map fun p => (some p.1, p.2)) (some d, run) f = pure (some d, run ++ items)
  | [], run, _ => by simp
  | p :: rest, run, h => by
    rw [List.map_cons, List.forIn_cons, hf p run (by simp at h; omega), pure_bind]
    have := gatherD d f hf rest (run ++ [p]) (by simp at h ⊢; omega)
    simpa using this
section
variable {M : Model} {A : Around} {E : Value → Shared → Prop} {s : Shared}
theorem disp_uk {va : Sem Value} {pairs : List (Sem Value × Sem Value)} {Q : Value → Shared → Prop} (h0 : pairs ≠ []) (hlen : pairs.length ≤ 15)
    (h : wpAny M A va (fun m s1 => wpAny M A (mergeMapping s.heap.objs.size m false) (fun _ s2 => wpAny M A (subDict pairs) (fun r s3 => wpAny M A (mergeMapping s.heap.objs.size (.ref r) false) (fun _ s4 => Q (.ref s.heap.objs.size) s4) (fun _ _ => False) s3) E s2) (fun _ _ => False) s1) E { s with heap := s.heap.push { cls := .type "dict", data := .dict #[] } }) :
    wpAny M A (dictDisplay ((none, va) :: pairs.map fun p => (some p.1, p.2))) Q E s := by
  unfold dictDisplay
  simp only [List.forIn_cons, List.isEmpty_nil, if_true, pure_bind, bind_assoc]
  refine wpAny_bind (wpAny_alloc ?_)
  refine wpAny_bind (wpAny_holding (wpAny_mono h (fun m s1 h1 => ?_) fun _ _ z => z))
  refine wpAny_bind (wpAny_onRaise (wpAny_tryCatch (wpAny_onRaise (wpAny_holding (wpAny_mono h1 (fun _ s2 h2 => ?_) fun _ _ z => z.elim)))))
  rw [gatherD _ _ (fun p run h => by
    have hne : ((run ++ [(p.1, p.2)]).length == 17) = false := by simp; omega
    simp only [hne, Bool.false_eq_true, if_false]) pairs [] (by simp; omega)]
  simp only [pure_bind, List.nil_append]
  have e : pairs.isEmpty = false := by cases pairs with | nil => exact absurd rfl h0 | cons _ _ => rfl
  rw [e]
  simp only [Bool.false_eq_true, if_false, bind_assoc, pure_bind]
  refine wpAny_bind (wpAny_holding (wpAny_mono h2 (fun r s3 h3 => ?_) fun _ _ z => z))
  refine wpAny_bind (wpAny_onRaise (wpAny_holding (wpAny_mono h3 (fun _ s4 h4 => ?_) fun _ _ z => z.elim)))
  exact wpAny_pure h4
end
section
variable {X : Cx} {pos : Pos} {a : Expr} {keys : List (Option Expr)} {values : List Expr} {ta : TE} {trs : List (TE × TE)}
/-- the second dict is put into the first one -/
def InU (p : Addr) (m : List (Key × V)) (Q : VK) (r : Addr) (H : Hp) : Prop := p ≠ r ∧ H p = some (.dK m) ∧ ∃ kv, H r = some (.dK kv) ∧ m.length + kv.length ≤ sizeLine ∧ Q (.ref p) (upd H p (.dK (mergeK m kv)))
/-- {**a, k: v, ..} -/
def tDispU (ta : TE) (trs : List (TE × TE)) : TE := fun σ H Q => ∀ p, H p = none → ta σ (upd H p (.dK [])) fun x H1 => ∃ b kvs, x = .ref b ∧ p ≠ b ∧ H1 p = some (.dK []) ∧ Rd H1 b (.dK kvs) ∧ kvs.length ≤ sizeLine ∧
  ∀ r, upd H1 p (.dK (mergeK [] kvs)) r = none → tPairs trs σ (upd (upd H1 p (.dK (mergeK [] kvs))) r (.dK [])) fun ps H2 => H2 r = some (.dK []) ∧
    ∃ kv2 : List (Key × V), ps = kv2.map (fun kv => (kV kv.1, kv.2)) ∧ kv2.length ≤ 15 ∧ InU p (mergeK [] kvs) Q r (upd H2 r (.dK (mergeK [] kv2)))
theorem pe_dispU (ha : PE X a ta) (h : PPs X pos keys values trs) (hall : keys.all (·.isSome) = true) (hl : keys.length = values.length) (h0 : keys ≠ []) (h15 : keys.length ≤ 15) : PE X (.Dict (none :: keys) (a :: values) pos) (tDispU ta trs) := by
  refine ⟨fun pins s σ H Q I q => ?_⟩
  have hn := I.hok.fresh (Nat.le_refl s.heap.objs.size)
  have I1 := I.laid (a := s.heap.objs.size) (o := .dK []) (h' := s.heap.push { cls := .type "dict", data := .dict #[] }) (t' := s.toks) (fun _ _ q => Heap.get?_push_of_some _ q) (Nat.le_refl _) (dk_empty s.heap I.big)
  have hz := zip_pairTrees keys values X.env pos hall hl
  have hp := pairTrees_length keys values X.env pos hall hl
  have hp0 : pairTrees keys values X.env pos ≠ [] := fun e => by
    rw [e] at hp
    exact h0 (List.length_eq_zero_iff.mp hp.symm)
  rw [arm_eval_Dict]
  show wpAny _ _ (do standAt pos; dictDisplay ((none, (do let x ← eval a X.env; standAt pos; pure x)) :: (evalEachOpt keys X.env).zip ((evalEach values X.env).map fun v => do let x ← v; standAt pos; pure x))) _ _ _
  rw [hz]
  refine wpAny_bind (wpAny_standAt (disp_uk hp0 (by rw [hp]; exact h15) ?_))
  refine wpAny_bind (thn (ha.run pins _ σ _ _ I1 (q _ hn)) fun u s1 ⟨x, H1, I2, rx, b, kvs, ex, hne, hpp, hb, hl1, q2⟩ => wpAny_bind (wpAny_standAt (wpAny_pure ?_)))
  subst ex
  obtain rfl : u = Value.ref b := rx
  refine put_in I2 hpp hb hne (by rw [List.length_nil]; omega) fun s2 I3 => ?_
  refine thn (sub_in h hall hl h0 h15 I3 q2) fun r s3 ⟨H4, I4, hpr, h4, kv, h5, h6, q4⟩ => ?_
  exact put_in I4 h4 (.inl h5) hpr h6 fun s4 I5 => ⟨.ref s.heap.objs.size, _, I5, rfl, q4⟩
end
end Dk
set_option exponentiation.threshold 256
namespace Dk
open PySem PySem.Spec PyProof.Rows L2
variable [TabP]
section
variable {K : PySem.W.Frag}
/-- {**a, k: v, ..} -/
def dispU (ma : ME) (ms : List (ME × ME)) : MN := fun e => (ma e).bind fun p => (tk p.2 p.1).bind fun z => (asD z.1).bind fun es => (okB (few es.length)).bind fun _ => (flatM ms z.2).bind fun p => (tks p.2 p.1).bind fun q => (pairK q.1).bind fun fs => (okB (decide (fs.length ≤ 15))).map fun _ => (.dic (mergeD (mergeD [] es) (mergeD [] fs)), q.2)
theorem few_size {n : Nat} (h : few n = true) : n + 15 ≤ sizeLine := by
  have := few_le h
  rw [sizeLine_eq]; omega
theorem sim_dispU {ta : TE} {ma : ME} (ha : SimE K ta ma) (ms : List (ME × ME)) : SimN K (tDispU ta (ms.map fun p => (rE K p.1, rE K p.2))) (dispU ma ms) := ⟨fun {F0 Gd ios F H σ e os d e' Q} W hm q => by
  unfold dispU at hm
  obtain ⟨⟨l1, e1⟩, h1, hm⟩ := Option.bind_eq_some_iff.mp hm
  obtain ⟨⟨d1, e2⟩, h2, hm⟩ := Option.bind_eq_some_iff.mp hm
  obtain ⟨es, h3, hm⟩ := Option.bind_eq_some_iff.mp hm
  obtain ⟨_, h4, hm⟩ := Option.bind_eq_some_iff.mp hm
  obtain ⟨⟨ls, e3⟩, h5, hm⟩ := Option.bind_eq_some_iff.mp hm
  obtain ⟨⟨ds, e4⟩, h6, hm⟩ := Option.bind_eq_some_iff.mp hm
  obtain ⟨fs, h7, hm⟩ := Option.bind_eq_some_iff.mp hm
  obtain ⟨_, h8, hm⟩ := Option.map_eq_some_iff.mp hm
  cases hm
  cases asD_iff h3
  intro p hp
  obtain ⟨W0, nw⟩ := W.lay (o := .dK []) (d := .dic []) hp ⟨W.fh.free hp, [], upd_same, .nil⟩
  obtain ⟨o, ho, Wg⟩ := nw.guard W0
  rw [upd_same] at ho
  cases ho
  refine ha.run Wg h1 fun F1 H1 os1 x W1 s1 k1 => ?_
  obtain ⟨F2, os2, W2, s2, r⟩ := W1.take k1 h2
  obtain ⟨g1, g2, g3⟩ := W2.gd p _ upd_same
  cases r with
  | @dic b kvs _ fb rk =>
  have hb : Rd H1 b (.dK kvs) := (Sm.of W2.fh).rd fb
  have hne : p ≠ b := fun z => by
    subst z
    rcases fb with z | ⟨_, z⟩ <;> (rw [g2] at z; cases z)
  have lk : kvs.length + 15 ≤ sizeLine := by rw [rk.length]; exact few_size (okB_iff h4)
  obtain ⟨W3, n3⟩ := nw.back upd_same W2 (s1.trans s2)
  obtain ⟨W4, n4⟩ := n3.write (o := .dK (mergeK [] kvs)) (d2 := .dic (mergeD [] es)) W3 ⟨g2, _, upd_same, rk.merge .nil⟩
  obtain ⟨o4, ho4, Wg4⟩ := n4.guard W4
  rw [upd_same] at ho4
  cases ho4
  refine ⟨b, kvs, rfl, hne, g1, hb, by omega, fun r hr => ?_⟩
  have hpr : p ≠ r := fun z => by
    subst z
    rw [upd_same] at hr; cases hr
  rw [tPairs_eq]
  obtain ⟨W5, nw5⟩ := Wg4.lay (o := .dK []) (d := .dic []) hr ⟨Wg4.fh.free hr, [], upd_same, .nil⟩
  obtain ⟨o5, ho5, Wg5⟩ := nw5.guard W5
  rw [upd_same] at ho5
  cases ho5
  refine (sim_flat ms).run Wg5 h5 fun F6 H6 os6 vs W6 s6 k6 => ?_
  obtain ⟨F7, os7, W7, s7, r7⟩ := W6.takes k6 h6
  obtain ⟨kv2, ek, rk2⟩ := pairK_rp r7 h7
  obtain ⟨q1, q2, q3⟩ := W7.gd r _ upd_same
  obtain ⟨W8, n8⟩ := nw5.back upd_same W7 (s6.trans s7)
  have l2 : kv2.length ≤ 15 := by rw [rk2.length]; exact of_decide_eq_true (okB_iff h8)
  obtain ⟨W9, n9⟩ := n8.write (o := .dK (mergeK [] kv2)) (d2 := .dic (mergeD [] fs)) W8 ⟨q2, _, upd_same, rk2.merge .nil⟩
  obtain ⟨t1, t2, t3⟩ := W9.gd p _ upd_same
  have m1 := length_mergeK kvs []
  have m2 := length_mergeK kv2 []
  rw [List.length_nil] at m1 m2
  refine ⟨q1, kv2, ek, l2, hpr, t1, mergeK [] kv2, upd_same, by omega, ?_⟩
  obtain ⟨W10, n10⟩ := n4.back upd_same W9 (s6.trans s7)
  obtain ⟨W11, n11⟩ := n10.write (o := .dK (mergeK (mergeK [] kvs) (mergeK [] kv2))) (d2 := .dic (mergeD (mergeD [] es) (mergeD [] fs))) W10 ⟨t2, _, upd_same, (rk2.merge .nil).merge ((RpK.mono (s6.trans s7) rk).merge .nil)⟩
  exact q F7 _ os7 p W11 (((s1.trans s2)).trans (s6.trans s7)) n11⟩
variable {X : Cx} {pos : Pos} {a : Expr} {ma : ME}
theorem d_dispU {ks : List (Option Expr)} {vs : List Expr} {ms : List (ME × ME)} (ha : PE X a (rE X.K ma)) (h : PPs X pos ks vs (prs X.K ms)) (hall : ks.all (·.isSome) = true := by rfl) (hl : ks.length = vs.length := by rfl) (h0 : ks ≠ [] := by intro z; cases z) (h15 : ks.length ≤ 15 := by decide) : PE X (.Dict (none :: ks) (a :: vs) pos) (rN X.K (dispU ma ms)) :=
  toN (pe_dispU ha h hall hl h0 h15) (sim_dispU sim_rE ms)
end
end Dk
set_option exponentiation.threshold 256
namespace Dk
open PySem PySem.Spec PyProof.Rows L2
end Dk
set_option exponentiation.threshold 256
namespace Dk
open PySem PySem.Spec PyProof.Rows L2
end Dk
set_option exponentiation.threshold 256
namespace Dk
open PySem PySem.Spec PyProof.Rows L2
end Dk
set_option exponentiation.threshold 256
namespace Dk
open PySem PySem.Spec PyProof.Rows L2
end Dk
set_option exponentiation.threshold 256
namespace PySem.W
open PySem PySem.Spec PyProof.Rows
end PySem.W
namespace Dk
open PySem PySem.Spec PyProof.Rows L2
end Dk
set_option exponentiation.threshold 256
namespace Dk
open PySem PySem.Spec PyProof.Rows L2
/-- how the heap stands behind the making: nothing new, or one entry more in the table and one code object -/
def MadeL (H H1 : Hp) (P c : Addr) (q : Str) : Prop :=
  (H1 = H ∧ H c = some (LamX.CodeO c q)) ∨ ∃ ps qs : Array Value, H P = some (.tbl ps) ∧ H c = none ∧ H1 = upd (upd H P (.tbl qs)) c (LamX.CodeO c q)
section
variable {X : Cx} {pins : List (Addr × Obj)} {σ : L2.St} {H : Hp} {s : Shared}
theorem lam_laid {T : List (Addr × Str)} {cd P : Addr} {ar : Arguments} {bd : Expr} {sc : Scope} {lp : Pos} {E Q : Value → Shared → Prop} (I : Inv X pins σ H s) (B : LamX.TabB X.base X.mg cd P) (hcd : X.env.code = .ref cd)
    (hm : (P, X.env.qual ++ "<lambda>") ∈ T) (hu : ∀ p ∈ T, p.1 = P → p.2 = X.env.qual ++ "<lambda>") (hT : LamX.Tabs T H) (hd : defaultsOf ar X.env = ([], [])) (hfr : ∀ y ∈ sc.names, y.2 = .free → ∃ c, X.env.cells.lookup y.1 = some c)
    (go : ∀ (f c : Addr) (pm ct : Value) (H1 : Hp) (s1 : Shared), Inv X pins σ H1 s1 → MadeL H H1 P c (X.env.qual ++ "<lambda>") → LamX.Tabs T H1 →
      s1.heap.get? f = some (PySem.W.kla_obj "<lambda>" (X.env.qual ++ "<lambda>") ar bd sc (cloFrom X.env.cells sc.names []) pm c ct) → H1 f = none → f ∉ frs X.stack → s.heap.objs.size ≤ f → Q (.ref f) s1) :
    wpAny (model X.prog X.w) X.A (eval (.Lambda ar bd sc lp) X.env) Q E s := by
  obtain ⟨ps, tP, tt, tc⟩ := hT _ hm
  have bmP : s.heap.BuiltinsAt X.mg P := B.bm.keeps I.bk
  have atP : s.heap.get? P = some { cls := .none, data := .fields ps } := I.hok _ _ tP
  have young : ∀ b : Addr, s.heap.objs.size ≤ b → b ∉ frs X.stack := fun b hb z => by
    rcases List.mem_cons.mp (I.stkSub _ z) with rfl | z2
    · exact absurd (Nat.lt_of_lt_of_le I.lt hb) (Nat.lt_irrefl _)
    · exact I.nofs hb z2
  refine PySem.W.kla_eval hd ?_
  cases ce : codeAmong lp ps.toList with
  | some cv =>
    obtain ⟨c, rfl, oc⟩ := tc lp cv ce
    refine PySem.W.kla_makeFunctionHit (closure_ok hfr) I.ok.glob (I.mod.glob.keeps I.bk) hcd (B.code.keeps I.bk) atP tt ce bmP fun ct hh tk ext sz => ?_
    have J : Inv X pins σ H { s with heap := hh.push (PySem.W.kla_obj "<lambda>" (X.env.qual ++ "<lambda>") ar bd sc (cloFrom X.env.cells sc.names []) ((X.mg "__name__").getD .none) c ct), toks := tk } := I.kept fun b o z => Heap.get?_push_of_some _ (ext b o z)
    exact go _ c _ ct H _ J (.inl ⟨rfl, oc⟩) hT (Heap.get?_push_size _ rfl) (I.hok.fresh sz) (young _ sz) sz
  | none =>
    refine PySem.W.kla_makeFunction (mg := X.mg) (c := cd) (P := P) (ps := ps) (closure_ok hfr) I.ok.glob (I.mod.glob.keeps I.bk) hcd (B.code.keeps I.bk) atP tt ce B.gP bmP fun c ct hh tk ext le lt rec tb => ?_
    obtain ⟨c2, co, vs, tq, ec, hco, hdt, hvs⟩ := rec
    cases ec
    have big : s.heap.objs.size ≤ hh.objs.size := Nat.le_of_lt (Nat.lt_of_le_of_lt le lt)
    have newC : H c = none := I.hok.fresh le
    have nPc : P ≠ c := ne_of_none tP newC
    have J := LamX.inv_table (t' := tk) (more := #[rawInt lp.line, rawInt lp.col, .ref c]) (h' := hh.push (PySem.W.kla_obj "<lambda>" (X.env.qual ++ "<lambda>") ar bd sc (cloFrom X.env.cells sc.names []) ((X.mg "__name__").getD .none) c ct)) I tP
      (fun b o hb z => Heap.get?_push_of_some _ (ext b o hb z)) (Heap.get?_push_of_some _ tb) le ⟨co, vs, tq, Heap.get?_push_of_some _ hco, hdt, hvs⟩
    have kept : ∀ b o, b ≠ P → H b = some o → upd (upd H P (.tbl (ps ++ #[rawInt lp.line, rawInt lp.col, .ref c]))) c (LamX.CodeO c (X.env.qual ++ "<lambda>")) b = some o := fun b o nb z => by rw [upd_ne (ne_of_none z newC), upd_ne nb]; exact z
    refine go hh.objs.size c _ ct _ _ J (.inr ⟨ps, _, tP, newC, rfl⟩) (fun p hp => ?_) (Heap.get?_push_size _ rfl) ?_ (young _ big) big
    · by_cases e : p.1 = P
      · rw [hu p hp e, e]
        refine ⟨_, (upd_ne nPc).trans upd_same, by simpa using PySem.TriplesOk_snoc _ _ _ _ tt, fun p2 cv z => ?_⟩
        have z : codeAmong p2 (ps.toList ++ [rawInt lp.line, rawInt lp.col, .ref c]) = some cv := by simpa using z
        rcases LamX.among_app _ tt z with z | z
        · obtain ⟨c0, e1, e2⟩ := tc p2 cv z
          exact ⟨c0, e1, kept _ _ (fun y => by rw [y, tP] at e2; exact LamX.codeO_ne _ (Option.some.inj e2).symm) e2⟩
        · exact ⟨c, z, upd_same⟩
      · obtain ⟨rs, a1, a2, a3⟩ := hT p hp
        refine ⟨rs, kept _ _ e a1, a2, fun p2 cv z => ?_⟩
        obtain ⟨c0, e1, e2⟩ := a3 p2 cv z
        exact ⟨c0, e1, kept _ _ (fun y => by rw [y, tP] at e2; exact LamX.codeO_ne _ (Option.some.inj e2).symm) e2⟩
    · rw [upd_ne (Nat.ne_of_gt lt), upd_ne (Nat.ne_of_gt (Nat.lt_of_lt_of_le (Heap.lt_size atP) big))]
      exact I.hok.fresh big
end
/-- a lambda's names: its parameters ys, captured ones, globals -/
structure LamY (sc scope : Scope) (ys : List Str) : Prop where
  kind : scope.kind = .function
  co : scope.isCoroutine = false
  gen : scope.isGenerator = false
  own : ∀ z ∈ scope.names, z.2 ≠ .cell
  loc : ∀ z ∈ scope.names, z.2 = .local → z.1 ∈ ys
  par : ∀ y ∈ ys, scope.names.lookup y = some .local
  nd : ys.Nodup
  free : ∀ z ∈ scope.names, z.2 = .free → sc.names.lookup z.1 = some .cell ∨ sc.names.lookup z.1 = some .free
def lamYB (sc scope : Scope) (ys : List Str) : Bool :=
  decide (scope.kind = .function) && !scope.isCoroutine && !scope.isGenerator && (ys.all fun y => decide (scope.names.lookup y = some .local)) && decide ys.Nodup && scope.names.all fun z => !decide (z.2 = .cell) && (!decide (z.2 = .local) || decide (z.1 ∈ ys)) && (!decide (z.2 = .free) || (decide (sc.names.lookup z.1 = some .cell) || decide (sc.names.lookup z.1 = some .free)))
theorem lamY_by {sc scope : Scope} {ys : List Str} (h : lamYB sc scope ys = true) : LamY sc scope ys := by
  unfold lamYB at h
  simp only [Bool.and_eq_true, Bool.or_eq_true, Bool.not_eq_true', decide_eq_true_eq, decide_eq_false_iff_not, List.all_eq_true] at h
  obtain ⟨⟨⟨⟨⟨h1, h2⟩, h3⟩, h4⟩, h6⟩, h5⟩ := h
  exact ⟨h1, h2, h3, fun z hz => (h5 z hz).1.1, fun z hz e => (h5 z hz).1.2.resolve_left fun n => n e, h4, h6, fun z hz e => (h5 z hz).2.resolve_left fun n => n e⟩
/-- the names that the lambda sees: those of the maker at js, and its parameters -/
def lamN (N : List Str) (js : List Nat) (ys : List Str) : List Str := js.map (fun j => N.getD j "") ++ ys
def lamSt (σ : L2.St) (js : List Nat) (ws : List V) : L2.St := js.map (fun j => σ[j]?.join) ++ ws.map some
/-- the context of the lambda's body -/
def lamCy (X : Cx) (A : Around) (outer : List PySem.Env) (s : Shared) (H : Hp) (scope : Scope) (f c : Addr) (js : List Nat) (ys : List Str) : Cx := { LamX.lamCx X A outer s H (fun _ _ _ => False) scope f c with N := lamN X.N js ys }
/-- each captured name stands in its slot -/
def CapOk (N : List Str) (scope : Scope) (js : List Nat) : Prop := ∀ j ∈ js, j < N.length ∧ scope.names.lookup (N.getD j "") = some .free
theorem vals_get : ∀ {ws : List V} {us : List Value} {i : Nat} {w : V}, Vals ws us → ws[i]? = some w → ∃ u, us[i]? = some u ∧ RelV w u
  | _, _, i, w, .nil, h => by simp at h
  | _, _, 0, w, .cons r _, h => by simp at h; subst h; exact ⟨_, rfl, r⟩
  | _, _, i + 1, w, .cons _ t, h => by
    obtain ⟨u, h1, h2⟩ := vals_get (i := i) (w := w) t (by simpa using h)
    exact ⟨u, by simpa using h1, h2⟩
theorem look_nd {z : Str} {u : Value} : ∀ {l : List (Str × Value)}, (l.map (·.1)).Nodup → (z, u) ∈ l → l.lookup z = some u
  | [], _, h => by cases h
  | (y, v) :: l, nd, h => by
    rw [List.map_cons] at nd
    obtain ⟨h1, h2⟩ := List.nodup_cons.mp nd
    rcases List.mem_cons.mp h with e | e
    · cases e; simp
    · have : z ≠ y := fun q => h1 (q ▸ List.mem_map.mpr ⟨_, e, rfl⟩)
      rw [List.lookup_cons, beq_false_of_ne this]
      exact look_nd h2 e
theorem zip_look {ys : List Str} {us : List Value} {i : Nat} {z : Str} {u : Value} (nd : ys.Nodup) (hl : us.length = ys.length) (h1 : ys[i]? = some z) (h2 : us[i]? = some u) : (ys.zip us).reverse.lookup z = some u := by
  refine look_nd ?_ (List.mem_reverse.mpr (List.mem_of_getElem? (i := i) ?_))
  · rw [List.map_reverse, List.map_fst_zip (by omega)]
    exact (List.reverse_perm ys).nodup_iff.mpr nd
  · rw [List.getElem?_zip_eq_some]; exact ⟨h1, h2⟩
theorem joinS {α : Type} {a : Option (Option α)} {x : α} (h : a.join = some x) : a = some (some x) := by
  cases a with
  | none => cases h
  | some b => cases b with
    | none => cases h
    | some c => cases h; rfl
section
variable {X : Cx} {pins : List (Addr × Obj)} {σ : L2.St} {H HZ : Hp} {s s1 : Shared}
theorem lam_in {A : Around} {outer : List PySem.Env} {scope : Scope} {f c tk : Nat} {js : List Nat} {ys : List Str} {ws : List V} {us : List Value} {h1 : Heap} (I : Inv X pins σ H s) (L : LamY X.env.scope scope ys) (hj : CapOk X.N scope js) (e0 : Env0 X.prog X.w X.K X.mg X.base A outer s1 HZ) (hd : A.handled = none)
    (un : Un (frs X.stack) [] H HZ s.heap s1.heap) (hns : h1.Ns s1.heap.objs.size fun z => (ys.zip us).reverse.lookup z) (kp : ∀ b o, s1.heap.get? b = some o → h1.get? b = some o) (rw_ : Vals ws us) (hl : us.length = ys.length) :
    Inv (lamCy X A outer s1 HZ scope f c js ys) [] (lamSt σ js ws) HZ { s1 with heap := h1, toks := tk } := by
  have hasC : ∀ z ∈ scope.names, z.2 = .free → ∃ a, X.env.cells.lookup z.1 = some a := fun z hz e => by
    rcases L.free z hz e with k | k
    · exact I.ok.has _ (.inl k)
    · exact I.ok.has _ (.inr k)
  have outC : ∀ {z : Str} {a : Addr}, (cloFrom X.env.cells scope.names []).lookup z = some a → X.env.cells.lookup z = some a := fun {z a} e => by
    rcases cloFrom_mem (PySem.mem_of_lookup e) with hm | ⟨h1, h2⟩
    · cases hm
    · obtain ⟨a1, ha⟩ := hasC _ h1 rfl
      have ha : X.env.cells.lookup z = some a1 := ha
      have e2 : a = a1 := by rw [h2, ha] <;> rfl
      rw [e2]; exact ha
  have inC : ∀ {z : Str}, scope.names.lookup z = some .free → ∃ a, (cloFrom X.env.cells scope.names []).lookup z = some a := fun {z} hl =>
    mem_lookup (cloFrom_has (cells := X.env.cells) (acc := []) (PySem.mem_of_lookup hl))
  have cellK : ∀ {a : Addr} {v : Option Value}, H a = none → s.heap.IsCell a v → h1.IsCell a v := fun {a v} n ⟨o, ho, hdt⟩ => by
    obtain ⟨sl, q⟩ := un.any ho n (by simp)
    exact ⟨_, kp _ _ q, hdt⟩
  have noEx : ∀ b : Addr, b ∉ (lamCy X A outer s1 HZ scope f c js ys).ex := fun b z => absurd (show b ∈ ([] : List Addr) from z) (by simp)
  refine ⟨⟨e0.mod, L.kind, rfl, rfl, Nat.le_refl _, fun z1 z2 a q1 q2 => I.ok.inj z1 z2 a (outC q1) (outC q2), fun z hz => ?_, fun z a hz _ => ?_, fun _ => hd, Around.frames_deeper e0.frames, .inr ⟨rfl, rfl⟩, fun b z => absurd z (noEx b), e0.bs, e0.bsz, fun b _ _ => noEx b,
      fun b z => absurd z (noEx b), e0.funs, e0.frf⟩,
    rfl, e0.bare, Un.kept kp, ⟨_, hns, fun i z v q1 q2 q3 => ?_⟩, fun z a e => ?_, e0.hok.fresh (Nat.le_refl _), fun z a e => ?_, fun q hq => absurd (show q ∈ ([] : List (Addr × Obj)) ++ [] from hq) (by simp), e0.hok.kept kp, ?_⟩
  · have hz : scope.names.lookup z = some .cell ∨ scope.names.lookup z = some .free := hz
    rcases hz with hz | hz
    · exact absurd rfl (L.own _ (PySem.mem_of_lookup hz))
    · exact inC hz
  · have hz : false = true := hz
    cases hz
  · have q1 : (lamN X.N js ys)[i]? = some z := q1
    have q2 : (lamSt σ js ws)[i]? = some (some v) := q2
    have q3 : Vis scope z := q3
    unfold lamN at q1
    unfold lamSt at q2
    by_cases hi : i < js.length
    · rw [List.getElem?_append_left (by rw [List.length_map]; exact hi), List.getElem?_map, List.getElem?_eq_getElem hi] at q1 q2
      have ez : X.N.getD js[i] "" = z := Option.some.inj q1
      have ev : σ[js[i]]?.join = some v := Option.some.inj q2
      obtain ⟨hlt, hfree⟩ := hj _ (List.getElem_mem hi)
      have eN : X.N[js[i]]? = some z := by
        rw [← ez, List.getD_eq_getElem?_getD, List.getElem?_eq_getElem hlt]; rfl
      rw [ez] at hfree
      obtain ⟨m, hn, hl⟩ := I.loc
      have hvis : Vis X.env.scope z := (L.free _ (PySem.mem_of_lookup hfree) rfl).elim (fun k => .inr (.inl k)) (fun k => .inr (.inr k))
      obtain ⟨w', r, q⟩ := hl js[i] z v eN (joinS ev) hvis
      obtain ⟨a2, h2⟩ := inC hfree
      refine ⟨w', r, .inr ⟨.inr hfree, a2, h2, ?_⟩⟩
      have a1 := outC h2
      rcases q with ⟨k', _⟩ | ⟨_, a3, e', zz⟩
      · have k' : X.env.scope.names.lookup z = some .local := k'
        rcases L.free _ (PySem.mem_of_lookup hfree) rfl with k2 | k2 <;> rw [show X.env.scope.names.lookup z = _ from k2] at k' <;> cases k'
      · rw [a1] at e'
        cases e'
        exact cellK (I.freeC z _ a1) zz
    · have hi := Nat.le_of_not_lt hi
      rw [List.getElem?_append_right (by rw [List.length_map]; exact hi), List.length_map] at q1 q2
      rw [List.getElem?_map] at q2
      obtain ⟨w, hw, ew⟩ := Option.map_eq_some_iff.mp q2
      cases ew
      obtain ⟨u, hu, ru⟩ := vals_get rw_ hw
      exact ⟨u, ru, .inl ⟨L.par z (List.mem_of_getElem? q1), zip_look L.nd hl q1 hu⟩⟩
  · obtain ⟨v, zz⟩ := I.cell z a (outC e)
    exact ⟨v, cellK (I.freeC z a (outC e)) zz⟩
  · obtain ⟨v, o, ho, hdt⟩ := I.cell z a (outC e)
    exact un.free a o ho (I.freeC z a (outC e)) (by simp)
  · show (lamSt σ js ws).length = (lamN X.N js ys).length
    unfold lamSt lamN
    rw [List.length_append, List.length_append, List.length_map, List.length_map, List.length_map, ← hl, rw_.length]
end
end Dk
set_option exponentiation.threshold 256
namespace Dk
open PySem PySem.Spec PyProof.Rows L2
variable {K : PySem.W.Frag}
/-- a def's context, entered at s -/
abbrev defCx (P : Program) (w : World) (K : PySem.W.Frag) (mg : Str → Option Value) (base : Heap) (N : List Str) (q : Str) (sc : Scope) (g : Addr) (cd : Value) (A : Around) (outer : List PySem.Env) (s : Shared) (H : Hp) : Cx := (cxOf CX0 P w K mg base N q sc g cd A outer s H E0).nox
end Dk
set_option exponentiation.threshold 256
namespace Dk
open PySem PySem.Spec PyProof.Rows L2
variable [TabP]
variable {K : PySem.W.Frag}
def isFn (e : Env) (i kf : Nat) : Bool := match e[i]? with
  | some (.fn k) => decide (k = kf)
  | _ => false
/-- the slots of a lambda's body -/
theorem lam_wok {J : TabP} {F H : Hp} {xs : List V} {ds : List D} (fh : Same F H) (tp : @Tp J F H) (r : RpL K F xs ds) :
    @WOk J K F (gdOf F H []) [] F H (xs.map some) (ds.map .fz) (ds.map (fun _ => none)) := by
  have len : xs.length = ds.length := r.length
  refine ⟨fh, Sm.refl _, fun a o q => ?_, ?_, ?_, fun i t h => ?_, fun i j p q => absurd q (noneOs p i), fun i p q => by simp at q, tp, gdOf_nt⟩
  · obtain ⟨h1, h2, _⟩ := gdOf_iff q
    exact ⟨h1, h2, fun i => noneOs a i⟩
  · rw [List.length_map, List.length_map, len]
  · rw [List.length_map, List.length_map]
  · rw [List.getElem?_map] at h
    obtain ⟨d, hd, rfl⟩ := Option.map_eq_some_iff.mp h
    rw [List.getElem?_map, List.getElem?_map, hd]
    obtain ⟨y, hy, ry⟩ := r.get hd
    rw [hy]
    exact ⟨rfl, y, rfl, ry⟩
end Dk
set_option exponentiation.threshold 256
namespace Dk
open PySem PySem.Spec PyProof.Rows L2
variable [TabP]
variable {K : PySem.W.Frag}
section
variable {F0 Gd F H F' H1 : Hp} {ios os : List (Option Addr)} {σ : L2.St} {e e' : Env}
theorem WOk.takeS : ∀ {js : List Nat} {F : Hp} {e : Env} {os : List (Option Addr)} {ds : List D} {e' : Env}, WOk K F0 Gd ios F H σ e os → tks e (js.map L.s) = some (ds, e') →
    ∃ xs F' os', WOk K F0 Gd ios F' H σ e' os' ∧ Sm F F' ∧ RpL K F' xs ds ∧ js.map (fun j => σ[j]?.join) = xs.map some
  | [], F, e, os, _, _, W, h => by cases h; exact ⟨[], F, os, W, Sm.refl _, .nil, rfl⟩
  | j :: js, F, e, os, ds, e', W, h => by
    rw [List.map_cons] at h
    unfold tks at h
    obtain ⟨⟨d, e1⟩, h1, h⟩ := Option.bind_eq_some_iff.mp h
    obtain ⟨⟨cs, e2⟩, h2, h⟩ := Option.map_eq_some_iff.mp h
    cases h
    obtain ⟨x, hx⟩ : ∃ x, σ[j]?.join = some x := by
      simp only [tk] at h1
      cases q : e[j]? with
      | none => rw [q] at h1; cases h1
      | some t =>
        rw [q] at h1
        have z := W.sl j t q
        cases t with
        | no => cases h1
        | fn _ => cases h1
        | io c => cases h1
        | fz c => obtain ⟨_, x, z, _⟩ := z; exact ⟨x, z⟩
        | ow c => obtain ⟨p, _, z, _⟩ := z; exact ⟨_, z⟩
    obtain ⟨F1, os1, W1, s1, r1⟩ := W.take (l := .s j) (x := x) (joinS hx) h1
    obtain ⟨xs, F2, os2, W2, s2, r2, eq⟩ := W1.takeS h2
    exact ⟨x :: xs, F2, os2, W2, s1.trans s2, .cons (r1.mono s2) r2, by rw [List.map_cons, List.map_cons, eq, hx]⟩
/-- the world behind the making of a lambda -/
theorem ext_made {P c : Addr} {q : Str} (s : Same F H) (tp : Tp F H) (m : MadeL H H1 P c q) (T1 : LamX.Tabs TabP.T H1) : Ext F H F H1 := by
  rcases m with ⟨rfl, _⟩ | ⟨ps, qs, hP, hc, rfl⟩
  · exact Ext.refl s
  · have nPc : P ≠ c := ne_of_none hP hc
    refine ⟨Sm.refl _, fun a o h n ne => ?_, fun b o h => ?_, fun _ _ _ n _ => n, fun _ => ⟨fun b xs h => ?_, tp.nt, T1⟩⟩
    · rw [upd_ne (ne_of_none h hc), upd_ne fun z => ne ps (by rw [z, hP] at h; exact (Option.some.inj h).symm)]; exact h
    · have h2 := s b o h
      rw [upd_ne (ne_of_none h2 hc), upd_ne fun z => (tp.nt b o h).1 ps (by rw [z, hP] at h2; exact (Option.some.inj h2).symm)]; exact h2
    · by_cases z : b = c
      · rw [z, upd_same] at h; cases h
      · rw [upd_ne z] at h
        by_cases y : b = P
        · rw [y, upd_same] at h; cases h
        · rw [upd_ne y] at h; exact tp.tup b xs h
theorem made_code {P c : Addr} {q : Str} (s : Same F H) (tp : Tp F H) (m : MadeL H H1 P c q) : H1 c = some (LamX.CodeO c q) ∧ F c = none ∧ ∀ o, H c = some o → o = LamX.CodeO c q := by
  rcases m with ⟨rfl, hc⟩ | ⟨ps, qs, hP, hc, rfl⟩
  · refine ⟨hc, ?_, fun o h => (Option.some.inj (hc.symm.trans h)).symm⟩
    cases z : F c with
    | none => rfl
    | some o => exact absurd (Option.some.inj (hc.symm.trans (s c o z))).symm ((tp.nt c o z).2 _)
  · refine ⟨upd_same, s.free hc, fun o h => by rw [hc] at h; cases h⟩
end
end Dk
set_option exponentiation.threshold 256
namespace Dk
open PySem PySem.Spec PyProof.Rows L2
variable [tabP : TabP]
variable {K : PySem.W.Frag}
/-- a lambda as it is written: js, the names that it captures; ys, its parameters -/
structure LamW where
  ar : Arguments
  bd : Expr
  sc : Scope
  js : List Nat
  ys : List Str
/-- an argument: a late value; the function k, with what it holds -/
inductive AV where
  | v (l : L) | f (k : Nat) (ds : List D)
/-- what is known of the function k at o -/
structure FOk (X : Cx) (Lw : Nat → LamW) (σ : L2.St) (F Gd : Hp) (k : Nat) (I : FnI) (o : Obj) : Prop where
  code : Gd I.fc = some (LamX.CodeO I.fc (X.env.qual ++ "<lambda>"))
  name : I.fq = X.env.qual ++ "<lambda>"
  rp : RpL X.K F I.caps I.dat
  cap : (Lw k).js.map (fun j => σ[j]?.join) = I.caps.map some
  obj : ∃ pm ct, o = PySem.W.kla_obj "<lambda>" (X.env.qual ++ "<lambda>") (Lw k).ar (Lw k).bd (Lw k).sc (cloFrom X.env.cells (Lw k).sc.names []) pm I.fc ct
abbrev FL := List (Nat × FnI × Obj)
inductive AOk (X : Cx) (Lw : Nat → LamW) (σ : L2.St) (F Gd : Hp) : List V → List AV → FL → Prop
  | nil : AOk X Lw σ F Gd [] [] []
  | val {x : V} {l : L} {xs : List V} {as : List AV} {fs : FL} : LOk X.K F σ x l → AOk X Lw σ F Gd xs as fs → AOk X Lw σ F Gd (x :: xs) (.v l :: as) fs
  | fn {k : Nat} {I : FnI} {o : Obj} {xs : List V} {as : List AV} {fs : FL} : FOk X Lw σ F Gd k I o → AOk X Lw σ F Gd xs as fs → AOk X Lw σ F Gd (.ref I.fn :: xs) (.f k I.dat :: as) ((k, I, o) :: fs)
end Dk
set_option exponentiation.threshold 256
namespace Dk
open PySem PySem.Spec PyProof.Rows L2
variable [tabP : TabP]
variable {K : PySem.W.Frag}
section
variable {F0 Gd F H : Hp} {ios os : List (Option Addr)} {σ : L2.St} {e e' : Env} {X : Cx} {Lw : Nat → LamW}
theorem FOk.mono {F F' : Hp} {k : Nat} {I : FnI} {o : Obj} (h : FOk X Lw σ F Gd k I o) (s : Sm F F') : FOk X Lw σ F' Gd k I o := ⟨h.code, h.name, h.rp.mono s, h.cap, h.obj⟩
theorem AOk.mono {F F' : Hp} (s : Sm F F') : ∀ {vs : List V} {as : List AV} {fs : FL}, AOk X Lw σ F Gd vs as fs → AOk X Lw σ F' Gd vs as fs
  | _, _, _, .nil => .nil
  | _, _, _, .val h r => .val (h.mono s) (AOk.mono s r)
  | _, _, _, .fn h r => .fn (h.mono s) (AOk.mono s r)
/-- one argument and its slot -/
inductive AS (X : Cx) (F : Hp) (fs : FL) : List V → List Sl → Prop
  | nil : AS X F fs [] []
  | val {x : V} {d : D} {xs : List V} {ss : List Sl} : Rp X.K F x d → AS X F fs xs ss → AS X F fs (x :: xs) (.fz d :: ss)
  | fn {k : Nat} {I : FnI} {o : Obj} {xs : List V} {ss : List Sl} : (k, I, o) ∈ fs → AS X F fs xs ss → AS X F fs (.ref I.fn :: xs) (.fn k :: ss)
theorem AS.mono {F F' : Hp} {fs fs' : FL} (s : Sm F F') (i : ∀ z ∈ fs, z ∈ fs') : ∀ {xs : List V} {ss : List Sl}, AS X F fs xs ss → AS X F' fs' xs ss
  | _, _, .nil => .nil
  | _, _, .val h r => .val (h.mono s) (AS.mono s i r)
  | _, _, .fn h r => .fn (i _ h) (AS.mono s i r)
theorem AS.length {fs : FL} : ∀ {xs : List V} {ss : List Sl}, AS X F fs xs ss → xs.length = ss.length
  | _, _, .nil => rfl
  | _, _, .val _ r => by rw [List.length_cons, List.length_cons, r.length]
  | _, _, .fn _ r => by rw [List.length_cons, List.length_cons, r.length]
end
end Dk
set_option exponentiation.threshold 256
namespace Dk
open PySem PySem.Spec PyProof.Rows L2
end Dk
set_option exponentiation.threshold 256
namespace Dk
open PySem PySem.Spec PyProof.Rows L2
variable [tabP : TabP]
variable {K : PySem.W.Frag}
/-- a def, its code object at cd -/
def DefAtC (K : PySem.W.Frag) (mg : Str → Option Value) (x : Str) (st : Stmt) (cd : Addr) : Prop :=
  ∃ (f : Addr) (oc : Value) (od : Option Addr) (kV doc pm : Value) (an : Option Addr) (ct : Value) (osl : Array (Option Value)), K.lookup f = some ⟨oc, od, .func (PySem.W.fnOf x x (defArgs st) (defBody st) (defScope st) .none kV doc pm an (.ref cd) ct), osl⟩ ∧ PySem.W.codeIn K (.ref cd) x = true ∧ PySem.W.keepIn K (.ref f) = true ∧ mg x = some (.ref f)
/-- its table: where the lambdas of the def x are written in -/
def TabOf (base : Heap) (mg : Str → Option Value) (x : Str) (cd : Addr) : Prop :=
  ∃ P, LamX.TabB base mg cd P ∧ (P, x ++ ".<locals>." ++ "<lambda>") ∈ TabP.T ∧ ∀ p ∈ TabP.T, p.1 = P → p.2 = x ++ ".<locals>." ++ "<lambda>"
theorem hasDC {P : Program} {w : World} {mg : Str → Option Value} {base : Heap} {x : Str} {st : Stmt} {cd : Addr} {N ps : List Str} {k a n : Nat} {m : MS} (At : DefAtC K mg x st cd) (S : FnScope N ps (defScope st)) (ha : ps.length = a) (hn : N.length - ps.length = n)
    (hbd : ∀ (kV doc pm : Value) (an : Option Addr) (cdv ct : Value) (us : List Value), us.length = ps.length → bindArgs (PySem.W.fnOf x x (defArgs st) (defBody st) (defScope st) .none kV doc pm an cdv ct) ⟨us, []⟩ = pure (ps.zip us))
    (hb : ∀ (f : Addr) (A : Around) (outer : List PySem.Env) (s : Shared) (H : Hp), Room k (A.deeper (envOfC x (defScope st) s.heap.objs.size f (.ref cd))) → (A.deeper (envOfC x (defScope st) s.heap.objs.size f (.ref cd))).guards = some [] →
      PSs (cxOf CX0 P w K mg base N x (defScope st) f (.ref cd) A outer s H E0).nox (defBody st) (rS K m)) : Has P w K mg base x (k + 1) ps (fnM a n m) := by
  obtain ⟨f, oc, od, kV, doc, pm, an, ct, osl, lk, hcd, kp, hm⟩ := At
  have Fu : Fun K x x st f _ := fun_mk (st := st) lk hcd kp
  refine ⟨f, _, ⟨fun vs H Q h => (fnM_len h).trans ha.symm, fun A outer s H args us vs Q hr hg e0 bt rv hs => ?_⟩, hm, kp, Fu.binds hbd⟩
  have hl : vs.length = ps.length := (fnM_len hs).trans ha.symm
  have inK : K.In s.heap := e0.mod.kin.keeps fun b o h => (e0.bs b o h).1
  have noL : s.heap.NoLimit := e0.mod.nolimit.keeps fun b o h => (e0.bs b o h).1
  have kinds : ∀ y ∈ ps.zip us, (defScope st).names.lookup y.1 = some .local ∨
      ((defScope st).names.lookup y.1 = some .cell ∧ ((cellsFrom (s.heap.objs.size + 1) (defScope st).names []).lookup y.1).isSome = true) := by
    rintro ⟨z, v⟩ hz
    rcases S.par z (List.of_mem_zip hz).1 with h | h
    · exact Or.inl h
    · exact Or.inr ⟨h, PySem.W.cellsFrom_some _ _ _ (Or.inl h)⟩
  refine codeAny_call_function hr.depth (inK _ _ lk) rfl S.co S.gen rfl (PySem.W.codeRec_of inK hcd) (bt _ _ _ _ ?_)
  refine wpAny_newFunctionEnv_cells S.kind kinds fun env henv s1 ic => ?_
  subst henv
  refine ⟨noL.keeps ic.toInCall.keep, codeAny_func ?_⟩
  have body := (hb f A outer s H (hr.deeper _) hg).nox
  have read := fn_sim (t := rS K m) (N := N) sim_rS (by rw [hl]; exact hn) hs (B := TbK H) tbK_ob
  have I0 := inv_start (CX := CX0) (P := P) (w := w) (mg := mg) (base := base) (E := E0) S hr.hd e0 hl rv ic
  refine wpAny_mono (body.run [] s1 _ H _ I0 read) (fun fl s' hq => ?_) fun x s' hq => hq
  cases fl with
  | brk => obtain ⟨_, _, _, no⟩ := hq; exact no.elim
  | cont => obtain ⟨_, _, _, no⟩ := hq; exact no.elim
  | next =>
    obtain ⟨σ', H', J, hQ⟩ := hq
    exact ⟨V.non, H', J.os, J.bare, J.base, J.hok, rfl, hQ⟩
  | ret u =>
    obtain ⟨v, σ', H', J, rl, hQ⟩ := hq
    exact ⟨v, H', J.os, J.bare, J.base, J.hok, rl, hQ J.base.tbls⟩
def capB (N : List Str) (scope : Scope) (js : List Nat) : Bool := js.all fun j => decide (j < N.length) && decide (scope.names.lookup (N.getD j "") = some .free)
omit tabP in
theorem capOk_by {N : List Str} {scope : Scope} {js : List Nat} (h : capB N scope js = true) : CapOk N scope js := fun j hj => by
  have z := List.all_eq_true.mp h j hj
  rw [Bool.and_eq_true, decide_eq_true_eq, decide_eq_true_eq] at z
  exact z
omit tabP in
theorem fall_nil {α : Type} {P : α → Prop} : ∀ z ∈ ([] : List α), P z := fun _ h => nomatch h
omit tabP in
theorem fall_cons {α : Type} {P : α → Prop} {a : α} {l : List α} (h : P a) (t : ∀ z ∈ l, P z) : ∀ z ∈ a :: l, P z := fun z hz => by
  rcases List.mem_cons.mp hz with e | e
  · rw [e]; exact h
  · exact t z e
end Dk
set_option exponentiation.threshold 256
namespace Dk
open PySem PySem.Spec PyProof.Rows L2
variable [tabP : TabP]
variable {K : PySem.W.Frag}
structure Exc where
  n : Str
  fs : List (Str × D)
abbrev MX := Env → Option (Exc × Env)
def ExOk (K : PySem.W.Frag) (F : Hp) (x : Exc) (cls : Value) (d : Option Addr) : Prop :=
  (∃ C, PySem.W.nsIn K mainGlobals x.n = some (some (.ref C)) ∧ cls = .ref C) ∧ (x.fs = [] ∨ ∃ dd vs, d = some dd ∧ F dd = some (.xd vs) ∧ RpF K F vs x.fs)
theorem ExOk.mono {F F' : Hp} {x : Exc} {cls : Value} {d : Option Addr} (h : ExOk K F x cls d) (s : Sm F F') : ExOk K F' x cls d :=
  ⟨h.1, h.2.imp id fun ⟨dd, vs, e, a, r⟩ => ⟨dd, vs, e, s.at a, r.mono s⟩⟩
/-- what is wanted behind: the exception and the world -/
def Xk (K : PySem.W.Frag) (F0 Gd : Hp) (ios : List (Option Addr)) (F : Hp) (e' : Env) (x : Exc) (W : WX) : Prop :=
  ∀ F' H' σ' os' cls d, WOk K F0 Gd ios F' H' σ' e' os' → Sm F F' → ExOk K F' x cls d → W cls d σ' H'
theorem Xk.mono {F0 Gd F F' : Hp} {ios : List (Option Addr)} {e' : Env} {x : Exc} {W : WX} (h : Xk K F0 Gd ios F e' x W) (s : Sm F F') : Xk K F0 Gd ios F' e' x W := fun F2 H' σ' os' cls d w s2 o => h F2 H' σ' os' cls d w (s.trans s2) o
def xr (K : PySem.W.Frag) (W : WX) (m : MX) (σ : L2.St) (H : Hp) : Prop := ∃ F0 Gd ios F e os x e', WOk K F0 Gd ios F H σ e os ∧ m e = some (x, e') ∧ Xk K F0 Gd ios F e' x W
def zS (K : PySem.W.Frag) (W : WX) (m : MX) : TS := fun _ σ H => xr K W m σ H
def zE (K : PySem.W.Frag) (W : WX) (m : MX) : TE := fun σ H _ => xr K W m σ H
def zA (K : PySem.W.Frag) (W : WX) (m : MX) : TA := fun σ H _ => xr K W m σ H
section
variable {X : Cx} {st : Stmt} {sts : List Stmt} {e a b cnd : Expr} {es : List Expr} {W : WX} {m m2 mx : MX} {n : MS} {me : ME} {mt : MT} {pos : Pos}
theorem impA {t u : TA} (h : PA X es t) (i : ∀ σ H Q, u σ H Q → t σ H Q) : PA X es u := ⟨fun pos pins s σ H Q I q => h.run pos pins s σ H Q I (i σ H Q q)⟩
/-- the first that answers -/
def orZ (m m2 : MX) : MX := fun e => match m e with
  | some p => some p
  | none => m2 e
theorem xr_or {σ : L2.St} {H : Hp} (h : xr K W (orZ m m2) σ H) : xr K W m σ H ∨ xr K W m2 σ H := by
  obtain ⟨F0, Gd, ios, F, e, os, x, e', w, hm, q⟩ := h
  unfold orZ at hm
  split at hm
  · rename_i p hp
    cases hm
    exact Or.inl ⟨F0, Gd, ios, F, e, os, x, e', w, hp, q⟩
  · exact Or.inr ⟨F0, Gd, ios, F, e, os, x, e', w, hm, q⟩
theorem zb_or (h : PSs X sts (zS X.K W m)) (h2 : PSs X sts (zS X.K W m2)) : PSs X sts (zS X.K W (orZ m m2)) := ⟨fun pins s σ H G I q => (xr_or q).elim (fun q => h.run pins s σ H G I q) fun q => h2.run pins s σ H G I q⟩
theorem ze_or (h : PE X e (zE X.K W m)) (h2 : PE X e (zE X.K W m2)) : PE X e (zE X.K W (orZ m m2)) := ⟨fun pins s σ H G I q => (xr_or q).elim (fun q => h.run pins s σ H G I q) fun q => h2.run pins s σ H G I q⟩
def noX : MX := fun _ => none
theorem xr_no {σ : L2.St} {H : Hp} (h : xr K W noX σ H) : False := by
  obtain ⟨_, _, _, _, _, _, _, _, _, hm, _⟩ := h
  cases hm
theorem zb_no : PSs X sts (zS X.K W noX) := ⟨fun pins s σ H G I q => (xr_no q).elim⟩
theorem pa_never : PA X es (fun _ _ _ => False) := ⟨fun pos pins s σ H G I q => q.elim⟩
/-- a part runs well, then a part raises -/
def thX (n : MS) (m : MX) : MX := fun e => (n e).bind fun p => match p.1 with
  | .nx => m p.2
  | _ => none
theorem zb_here (h : PS X st (zS X.K W m)) : PSs X (st :: sts) (zS X.K W m) := impSs (pss_cons h (u := tNever) pss_never) fun G σ H q => q
theorem zb_later (h : PS X st (rS X.K n)) (h2 : PSs X sts (zS X.K W m)) : PSs X (st :: sts) (zS X.K W (thX n m)) := impSs (pss_cons h h2) fun G σ H q => by
  obtain ⟨F0, Gd, ios, F, e, os, x, e', w, hm, q⟩ := q
  unfold thX at hm
  obtain ⟨⟨f1, e1⟩, h1, hm⟩ := Option.bind_eq_some_iff.mp hm
  refine ⟨F0, Gd, ios, F, e, os, f1, e1, w, h1, ?_⟩
  cases f1 with
  | nx => exact fun F1 H1 σ1 os1 w1 s1 => ⟨F0, Gd, ios, F1, e1, os1, x, e', w1, hm, q.mono s1⟩
  | rt _ => cases hm
  | rn _ => cases hm
  | bk => cases hm
  | ct => cases hm
/-- a raise in the first statement or later -/
theorem zb_both (h0 : PS X st (zS X.K W m)) (h : PS X st (rS X.K n)) (h2 : PSs X sts (zS X.K W m2)) : PSs X (st :: sts) (zS X.K W (orZ m (thX n m2))) := zb_or (zb_here h0) (zb_later h h2)
def ifX (mt : MT) (m m2 : MX) : MX := fun e => (mt e).bind fun p => if p.1 = true then m p.2 else m2 p.2
theorem xr_if {σ : L2.St} {H : Hp} (q : xr K W (ifX mt m m2) σ H) : rT K mt σ H fun b H' => if b = true then xr K W m σ H' else xr K W m2 σ H' := by
  obtain ⟨F0, Gd, ios, F, e, os, x, e', w, hm, q⟩ := q
  unfold ifX at hm
  obtain ⟨⟨b1, e1⟩, h1, hm⟩ := Option.bind_eq_some_iff.mp hm
  refine ⟨F0, Gd, ios, F, e, os, b1, e1, w, h1, fun F1 H1 os1 w1 s1 => ?_⟩
  cases b1 with
  | true => exact ⟨F0, Gd, ios, F1, e1, os1, x, e', w1, hm, q.mono s1⟩
  | false => exact ⟨F0, Gd, ios, F1, e1, os1, x, e', w1, hm, q.mono s1⟩
theorem zs_if {st2 : List Stmt} (hc : PT X cnd (rT X.K mt)) (h : PSs X sts (zS X.K W m)) (h2 : PSs X st2 (zS X.K W m2)) : PS X (.If cnd sts st2 pos) (zS X.K W (ifX mt m m2)) := impS (ps_if hc h h2) fun G σ H q => by
  obtain ⟨F0, Gd, ios, F, e, os, b1, e1, w, h1, q⟩ := xr_if q
  refine ⟨F0, Gd, ios, F, e, os, b1, e1, w, h1, fun F1 H1 os1 w1 s1 => ?_⟩
  cases b1 with
  | true => exact iteT (q F1 H1 os1 w1 s1)
  | false => exact iteF (q F1 H1 os1 w1 s1)
theorem zs_expr (h : PE X e (zE X.K W m)) (hs : swapsWith e none pos.line X.env = pure false := by rfl) : PS X (.Expr e pos) (zS X.K W m) := impS (ps_expr h hs) fun G σ H q => q
theorem za_here (h : PE X e (zE X.K W m)) (hs : starEach (e :: es) X.env = (false, eval e X.env) :: starEach es X.env := by rfl) : PA X (e :: es) (zA X.K W m) := impA (pa_cons h pa_never hs) fun σ H Q q => q
end
end Dk
set_option exponentiation.threshold 256
namespace Dk
open PySem PySem.Spec PyProof.Rows L2
variable [tabP : TabP]
variable {K : PySem.W.Frag}
def spZ (K : PySem.W.Frag) (m : MX) (vs : List V) (H : Hp) (E : XK) : Prop := ∃ F a os x a', ArgOk K F H vs a os ∧ m a = some (x, a') ∧
  ∀ F' H' cls d, Sm F F' → Same F' H' → (∀ b o, H b = some o → F b = none → (∀ ps, o ≠ .tbl ps) → (∀ i : Nat, os[i]? ≠ some (some b)) → H' b = some o ∧ F' b = none) →
    (∀ (i : Nat) p, os[i]? = some (some p) → ∃ d, a'[i]? = some (.io d) ∧ Ob K F' H' p d) → Tp F' H' → ExOk K F' x cls d → E cls d H'
def fnZ (n k : Nat) (body : MX) : MX := fun a => if a.length = n then body (a ++ List.replicate k .no) else none
theorem fnZ_len {n k : Nat} {body : MX} {vs : List V} {H : Hp} {E : XK} (h : spZ K (fnZ n k body) vs H E) : vs.length = n := by
  obtain ⟨F, a, os, x, a', A, hm, _⟩ := h
  unfold fnZ at hm
  split at hm
  · rename_i q; rw [A.lv]; exact q
  · cases hm
theorem fnZ_sim {m : MX} {N : List Str} {vs : List V} {n k : Nat} {H : Hp} {E : XK} (hk : N.length - vs.length = k) (hs : spZ K (fnZ n k m) vs H E) : xr K (fun cls d _ H' => E cls d H') m (L2.start N vs) H := by
  obtain ⟨F, a, os, x, a', A, hm, post⟩ := hs
  have hm : m (a ++ List.replicate k .no) = some (x, a') := by
    unfold fnZ at hm
    split at hm
    · exact hm
    · cases hm
  have ga : ∀ (i : Nat), i < a.length → (a ++ List.replicate k Sl.no)[i]? = a[i]? := fun i hi => List.getElem?_append_left hi
  have go : ∀ (i : Nat) p, (os ++ List.replicate k none)[i]? = some (some p) → os[i]? = some (some p) := fun i p q => by
    by_cases hi : i < os.length
    · rw [List.getElem?_append_left hi] at q; exact q
    · rw [List.getElem?_append_right (Nat.le_of_not_lt hi), List.getElem?_replicate] at q
      split at q <;> cases q
  have W : WOk K F (gdOf F H os) os F H (L2.start N vs) (a ++ List.replicate k .no) (os ++ List.replicate k none) := by
    unfold L2.start
    rw [hk]
    refine ⟨A.fh, Sm.refl _, fun b o q => ?_, ?_, ?_, fun i s q => ?_, fun i j p q1 q2 => A.ds i j p (go i p q1) (go j p q2), fun i p q => ?_, A.tp, gdOf_nt⟩
    · obtain ⟨h1, h2, h3⟩ := gdOf_iff q
      exact ⟨h1, h2, fun i z => h3 i (go i b z)⟩
    · rw [List.length_append, List.length_append, List.length_map, List.length_replicate, List.length_replicate, A.lv]
    · rw [List.length_append, List.length_append, List.length_replicate, List.length_replicate, A.lo]
    · by_cases hi : i < a.length
      · rw [ga i hi] at q
        have z := (A.sl i s q).2
        rw [List.getElem?_append_left (by rw [List.length_map, A.lv]; exact hi), List.getElem?_append_left (by rw [A.lo]; exact hi), List.getElem?_map]
        have e : ((vs[i]?).map some).join = vs[i]? := by cases vs[i]? <;> rfl
        rw [e]
        exact z
      · have hi := Nat.le_of_not_lt hi
        rw [List.getElem?_append_right hi, List.getElem?_replicate] at q
        split at q
        · cases q
          rw [List.getElem?_append_right (l₁ := os) (by rw [A.lo]; exact hi), List.getElem?_replicate]
          show Option.join _ = none
          split <;> rfl
        · cases q
    · have hi : i < a.length := by rw [← A.lo]; exact (List.getElem?_eq_some_iff.mp q).1
      refine ⟨by rw [List.getElem?_append_left (by rw [A.lo]; exact hi)]; exact q, ?_⟩
      rw [ga i hi]
      have hs : a[i]? = some a[i] := List.getElem?_eq_getElem hi
      have z := A.sl i _ hs
      rw [q] at z
      rw [hs]
      cases y : a[i] with
      | no => rw [y] at z; cases z.2
      | fn kf => rw [y] at z; exact nomatch z.2.1
      | fz d => rw [y] at z; exact nomatch z.2.1
      | ow d => exact absurd y (z.1 d)
      | io d => exact ⟨d, rfl⟩
  refine ⟨F, gdOf F H os, os, F, _, _, x, a', W, hm, fun F' H' σ' os' cls d W' s' ok => ?_⟩
  refine post F' H' cls d W'.f0 W'.fh (fun b o h1 h2 hk h3 => ?_) (fun i p q => ?_) W'.tp ok
  · obtain ⟨q1, q2, _⟩ := W'.gd b o (by rw [gdOf_of h2 h3 fun ps z => hk ps (Option.some.inj (h1.symm.trans z))]; exact h1)
    exact ⟨q1, q2⟩
  · obtain ⟨q1, d, q2⟩ := W'.io i p q
    refine ⟨d, q2, ?_⟩
    obtain ⟨p2, h1, h2, ob⟩ := W'.sl i _ q2
    rw [q1] at h1; cases h1
    exact ob
abbrev rZ (P : Program) (w : World) (K : PySem.W.Frag) (mg : Str → Option Value) (base : Heap) (N : List Str) (q : Str) (sc : Scope) (f : Addr) (cdv : Value) (A : Around) (outer : List PySem.Env) (s : Shared) (H : Hp) (E : XK) : Cx := cxOf (L2.CX P w) P w K mg base N q sc f cdv A outer s H E
abbrev wZ (E : XK) : WX := fun cls d _ H => E cls d H
structure FnZ (P : Program) (w : World) (K : PySem.W.Frag) (mg : Str → Option Value) (base : Heap) (k : Nat) (f : Addr) (fd : FuncData) (ps : List Str) (m : MX) : Prop where
  len : ∀ vs H E, spZ K m vs H E → vs.length = ps.length
  run : ∀ (A : Around) (outer : List PySem.Env) (s : Shared) (H : Hp) (args : Args) (us : List Value) (vs : List V) (E : XK), Room k A → A.guards = some [] → Env0 P w K mg base A outer s H → BindsTo s fd args (ps.zip us) → Vals vs us → spZ K m vs H E →
    codeAny (model P w) A (.call (.ref f) args) (CR (L2.CX P w) outer P w H s (fun _ _ => False) E) s
/-- what a body must show -/
def BodyZ (P : Program) (w : World) (K : PySem.W.Frag) (mg : Str → Option Value) (base : Heap) (k : Nat) (N : List Str) (q : Str) (sc : Scope) (f : Addr) (body : List Stmt) (m : MX) : Prop :=
  ∀ (cdv : Value) (A : Around) (outer : List PySem.Env) (s : Shared) (H : Hp) (E : XK), Room k (rZ P w K mg base N q sc f cdv A outer s H E).A → (rZ P w K mg base N q sc f cdv A outer s H E).A.guards = some [] → Takes (rZ P w K mg base N q sc f cdv A outer s H E) (wZ E) →
    PassesOwn (model P w) (rZ P w K mg base N q sc f cdv A outer s H E).A (rZ P w K mg base N q sc f cdv A outer s H E).env (rZ P w K mg base N q sc f cdv A outer s H E).xe → PSs (rZ P w K mg base N q sc f cdv A outer s H E) body (zS K (wZ E) m)
theorem fnZ_of {P : Program} {w : World} {mg : Str → Option Value} {base : Heap} {x qual : Str} {st : Stmt} {f : Addr} {fd : FuncData} {N ps : List Str} {k a n : Nat} {m : MX} (Fu : Fun K x qual st f fd) (S : FnScope N ps (defScope st)) (ha : ps.length = a) (hn : N.length - ps.length = n)
    (hb : BodyZ P w K mg base k N qual (defScope st) f (defBody st) m) : FnZ P w K mg base (k + 1) f fd ps (fnZ a n m) := by
  obtain ⟨oc, od, kV, doc, pm, an, cdv, ct, osl, rfl, lk, hcd⟩ := Fu.ex
  refine ⟨fun vs H E h => (fnZ_len h).trans ha.symm, fun A outer s H args us vs E hr hg e0 bt rv hs => ?_⟩
  have hl : vs.length = ps.length := (fnZ_len hs).trans ha.symm
  have inK : K.In s.heap := e0.mod.kin.keeps fun b o h => (e0.bs b o h).1
  have noL : s.heap.NoLimit := e0.mod.nolimit.keeps fun b o h => (e0.bs b o h).1
  have kinds : ∀ y ∈ ps.zip us, (defScope st).names.lookup y.1 = some .local ∨
      ((defScope st).names.lookup y.1 = some .cell ∧ ((cellsFrom (s.heap.objs.size + 1) (defScope st).names []).lookup y.1).isSome = true) := by
    rintro ⟨z, v⟩ hz
    rcases S.par z (List.of_mem_zip hz).1 with h | h
    · exact Or.inl h
    · exact Or.inr ⟨h, PySem.W.cellsFrom_some _ _ _ (Or.inl h)⟩
  refine codeAny_call_function hr.depth (inK _ _ lk) rfl S.co S.gen rfl (PySem.W.codeRec_of inK hcd) (bt _ _ _ _ ?_)
  refine wpAny_newFunctionEnv_cells S.kind kinds fun env henv s1 ic => ?_
  subst henv
  refine ⟨noL.keeps ic.toInCall.keep, codeAny_func ?_⟩
  have body := hb cdv A outer s H E (hr.deeper _) hg (takes_of rfl rfl rfl rfl) (passes_of rfl)
  have read := fnZ_sim (N := N) (by rw [hl]; exact hn) hs
  have I0 := inv_start (CX := L2.CX P w) (P := P) (w := w) (mg := mg) (base := base) (E := E) S hr.hd e0 hl rv ic
  refine wpAny_mono (body.run [] s1 _ H { nx := fun _ _ => False, rt := fun _ _ => False } I0 read) (fun fl s' hq => ?_) fun x s' hq => hq
  cases fl with
  | brk => obtain ⟨_, _, _, no⟩ := hq; exact no.elim
  | cont => obtain ⟨_, _, _, no⟩ := hq; exact no.elim
  | next => obtain ⟨σ', H', J, no⟩ := hq; exact no.elim
  | ret u => obtain ⟨v, σ', H', J, rl, no⟩ := hq; exact no.elim
/-- what a callee lets out is taken -/
abbrev Pass (Z : Cx) (W : WX) : Prop := ∀ σ, PassesAt (L2.CX Z.prog Z.w) Z σ (WE W σ)
theorem pass_of {X : Cx} {W : WX} (tk : Takes X W) : Pass X W := fun σ => passAt tk σ
section
variable {X : Cx} {k : Nat} {f : Addr} {fd : FuncData} {ps : List Str} {m : MX} {x : Str} {p pos : Pos} {e : Expr} {es : List Expr} {t : TA} {W : WX} {mr : MA}
/-- a call's promise, taken up -/
theorem run_fnZ {pins : List (Addr × Obj)} {σ : L2.St} {H : Hp} {s : Shared} {Q : VK} {us : List Value} {vs : List V} (F : FnZ X.prog X.w X.K X.mg X.base k f fd ps m) (tk : Pass X W) (hr : Room k X.A) (hgd : X.A.guards = some []) (hb : Binds X.K fd ps [])
    (I : Inv X pins σ H s) (r : Vals vs us) (q : spZ X.K m vs H fun cls d H' => W cls d σ H') : wpAny (model X.prog X.w) X.A (call (.ref f) us) (EP X pins σ Q) X.xe s := by
  have el : vs.length = ps.length := F.len _ _ _ q
  have eu : (us ++ []).length = ps.length := by rw [List.append_nil, ← r.length]; exact el
  have bd := hb s us I.kIn eu
  rw [List.append_nil] at bd
  refine wpAny_call (codeAny_mono (F.run X.A X.stack s H ⟨us, []⟩ us vs (fun cls d H' => W cls d σ H') hr hgd I.env0 bd r q) ?_)
  intro rs s' hq
  cases rs with
  | error u => exact tk σ pins H s u s' I hq
  | ok fl => cases fl with
    | ret u => obtain ⟨_, _, _, _, _, _, _, no⟩ := hq; exact no.elim
    | next => exact False.elim hq
    | brk => exact False.elim hq
    | cont => exact False.elim hq
/-- the args' reading, then a call that raises -/
def tCallZ (K : PySem.W.Frag) (W : WX) (m : MX) (t : TA) : TE := fun σ H _ => t σ H fun vs H1 => spZ K m vs H1 fun cls d H' => W cls d σ H'
theorem pe_callZ (F : FnZ X.prog X.w X.K X.mg X.base k f fd ps m) (tk : Pass X W) (hr : Room k X.A) (hgd : X.A.guards = some []) (hg : Gl X x) (hm : X.mg x = some (.ref f)) (hk : PySem.W.keepIn X.K (.ref f) = true) (hb : Binds X.K fd ps []) (ha : PA X (e :: es) t)
    (hdb : (x == ("__debug__" : Str)) = false := by decide) (he : starEach (e :: es) X.env = (false, eval e X.env) :: starEach es X.env := by rfl) (hpl : (backTo pos (starEach es X.env)).any (·.1) = false := by rfl) :
    PE X (.Call (.Name x p) (e :: es) [] pos) (tCallZ X.K W m t) := by
  refine ⟨fun pins s σ H Q I h => ?_⟩
  refine wpAny_Call_Name_kw (ld_glob I hg hm ?_ hdb)
  refine PySem.W.callWith_K (h₀ := X.base) I.ok.mod.kin hk (thn (ha.run pos pins s σ H _ I h) ?_) he hpl
  rintro us s1 ⟨vs, H1, I1, r, q⟩
  exact ⟨I1.kIn, run_fnZ F tk hr hgd hb I1 r q⟩
/-- .. with arguments that raise -/
theorem pe_callY {f : Addr} (hg : Gl X x) (hm : X.mg x = some (.ref f)) (hk : PySem.W.keepIn X.K (.ref f) = true) {mx : MX} (ha : PA X (e :: es) (zA X.K W mx))
    (hdb : (x == ("__debug__" : Str)) = false := by decide) (he : starEach (e :: es) X.env = (false, eval e X.env) :: starEach es X.env := by rfl) (hpl : (backTo pos (starEach es X.env)).any (·.1) = false := by rfl) :
    PE X (.Call (.Name x p) (e :: es) [] pos) (zE X.K W mx) := by
  refine ⟨fun pins s σ H Q I h => ?_⟩
  refine wpAny_Call_Name_kw (ld_glob I hg hm ?_ hdb)
  refine PySem.W.callWith_K (h₀ := X.base) I.ok.mod.kin hk (thn (ha.run pos pins s σ H (fun _ _ => False) I h) ?_) he hpl
  rintro us s1 ⟨vs, H1, I1, r, q⟩
  exact q.elim
def callZ (m : MX) (ma : MA) : MX := fun e => (ma e).bind fun p => (tks p.2 p.1).bind fun q => (m (q.1.map .fz)).map fun r => (r.1, q.2)
theorem rd_callZ {σ : L2.St} {H : Hp} {Q : VK} {ma : MA} (q : zE K W (callZ m ma) σ H Q) : tCallZ K W m (rA K ma) σ H Q := by
  obtain ⟨F0, Gd, ios, F, e, os, x, e', Wd, hm, q⟩ := q
  unfold callZ at hm
  obtain ⟨⟨ls, e1⟩, h1, hm⟩ := Option.bind_eq_some_iff.mp hm
  obtain ⟨⟨ds, e2⟩, h2, hm⟩ := Option.bind_eq_some_iff.mp hm
  obtain ⟨⟨y, a'⟩, h3, hm⟩ := Option.map_eq_some_iff.mp hm
  cases hm
  refine ⟨F0, Gd, ios, F, e, os, ls, e1, Wd, h1, fun F1 H1 os1 xs W1 s1 k1 => ?_⟩
  obtain ⟨F2, os2, W2, s2, r⟩ := W1.takes k1 h2
  refine ⟨F2, _, _, y, a', args_pure W2.fh W2.tp r, h3, fun F' H' cls d sf fh g _ tp ok => ?_⟩
  have x := ext_of W2.fh sf fh (fun c o h n k => g c o h n k (noneOs c)) tp
  exact q F' H' σ os2 cls d (W2.ext x) ((s1.trans s2).trans sf) ok
end
/-- a def that raises, by name -/
def HasZ (P : Program) (w : World) (K : PySem.W.Frag) (mg : Str → Option Value) (base : Heap) (x : Str) (k : Nat) (ps : List Str) (m : MX) : Prop :=
  ∃ f fd, FnZ P w K mg base k f fd ps m ∧ mg x = some (.ref f) ∧ PySem.W.keepIn K (.ref f) = true ∧ Binds K fd ps []
theorem hasZ {P : Program} {w : World} {mg : Str → Option Value} {base : Heap} {x : Str} {st : Stmt} {N ps : List Str} {k a n : Nat} {m : MX} (At : DefAt K mg x st) (S : FnScope N ps (defScope st)) (ha : ps.length = a) (hn : N.length - ps.length = n)
    (hbd : ∀ (kV doc pm : Value) (an : Option Addr) (cdv ct : Value) (us : List Value), us.length = ps.length → bindArgs (PySem.W.fnOf x x (defArgs st) (defBody st) (defScope st) .none kV doc pm an cdv ct) ⟨us, []⟩ = pure (ps.zip us))
    (hb : ∀ f, BodyZ P w K mg base k N x (defScope st) f (defBody st) m) : HasZ P w K mg base x (k + 1) ps (fnZ a n m) := by
  obtain ⟨f, fd, Fu, hm⟩ := At
  exact ⟨f, fd, fnZ_of Fu S ha hn (hb f), hm, Fu.kp, Fu.binds hbd⟩
section
variable {X : Cx} {k : Nat} {ps : List Str} {m mx : MX} {x : Str} {p pos : Pos} {e : Expr} {es : List Expr} {W : WX} {mr : MA}
theorem z_call (F : HasZ X.prog X.w X.K X.mg X.base x k ps m) (tk : Pass X W) (hr : Room k X.A) (hgd : X.A.guards = some []) (ha : PA X (e :: es) (rA X.K mr)) (hg : Gl X x := by rfl)
    (hdb : (x == ("__debug__" : Str)) = false := by decide) (he : starEach (e :: es) X.env = (false, eval e X.env) :: starEach es X.env := by rfl) (hpl : (backTo pos (starEach es X.env)).any (·.1) = false := by rfl) :
    PE X (.Call (.Name x p) (e :: es) [] pos) (zE X.K W (callZ m mr)) := by
  obtain ⟨f, fd, F, hm, hk, hb⟩ := F
  exact impE (pe_callZ F tk hr hgd hg hm hk hb ha hdb he hpl) fun σ H Q q => rd_callZ q
theorem z_callA {fm : MS} (F : Has X.prog X.w X.K X.mg X.base x k ps fm) (ha : PA X (e :: es) (zA X.K W mx)) (hg : Gl X x := by rfl)
    (hdb : (x == ("__debug__" : Str)) = false := by decide) (he : starEach (e :: es) X.env = (false, eval e X.env) :: starEach es X.env := by rfl) (hpl : (backTo pos (starEach es X.env)).any (·.1) = false := by rfl) :
    PE X (.Call (.Name x p) (e :: es) [] pos) (zE X.K W mx) := by
  obtain ⟨f, fd, F, hm, hk, hb⟩ := F
  exact pe_callY hg hm hk ha hdb he hpl
end
/-- a class of errors of the program without own __init__ -/
structure ErrC (K : PySem.W.Frag) (mg : Str → Option Value) (x : Str) : Prop where
  ex : ∃ C B newId initId bmB, mg x = some (.ref C) ∧ PySem.W.nsIn K mainGlobals x = some (some (.ref C)) ∧ PySem.W.keepIn K (.ref C) = true ∧ ExcBaseFacts B newId initId bmB ∧ PySem.W.excIn K C bmB newId = true ∧
    PySem.W.subIn K (.ref C) (.type "BaseException") = some true ∧ PySem.W.typeIn K (.ref C) = some (.type "type")
def raX (x : Str) : MX := fun e => some (⟨x, []⟩, e)
theorem z_raise {X : Cx} {W : WX} {x : Str} {t : Str} {j : Nat} {pos p p2 p3 : Pos} (E : ErrC X.K X.mg x) (hc : X.calm = true) (tk : Takes X W) (hg : Gl X x := by rfl) (hdb : (x == ("__debug__" : Str)) = false := by decide) :
    PS X (.Raise (some (.Call (.Name x p) [.Constant (.str t) j p2] [] p3)) none pos) (zS X.K W (raX x)) := by
  obtain ⟨C, B, newId, initId, bmB, gC, nC, kC, F, q, sub, ty⟩ := E.ex
  refine impS (ps_raise hc tk (pmk_own F q gC kC (raises_own sub ty) hg hdb)) fun G σ H h => ?_
  obtain ⟨F0, Gd, ios, Fr, e, os, y, e', Wd, hm, h⟩ := h
  cases hm
  exact h Fr H σ os (.ref C) none Wd (Sm.refl _) ⟨⟨C, nC, rfl⟩, .inl rfl⟩
end Dk
set_option exponentiation.threshold 256
namespace Dk
open PySem PySem.W PySem.Spec PySem.Calls PyProof.Rows L2
open Builtin Builtin.ObjectAttr
section
variable {prog : Program} {w : World} {A : Around} {E : Value → Shared → Prop} {K : Frag} {h : Heap} {g : Array GenState} {d : Drawn} {t : Nat} {os : OsState} {B i newId : String} {bmB : List Value} {C : Addr}
/-- the bound built-in __init__ -/
theorem call_mw {u x t0 : Addr} {rest : List Value} {Q : Value → Shared → Prop} (X : K.In h) (FB : ExcBaseFacts B newId i bmB) (q : excInitIn K C bmB newId = true) (hu : h.get? u = some (kxs_mw i x)) (he : h.get? x = some (excObj C t0 none .none)) (hz : rest.length ≤ sizeLine)
    (hq : ∀ h' t1, (∀ b o, b ≠ x → h.get? b = some o → h'.get? b = some o) → h'.get? x = some (excObj C t1 none .none) → Q .none ⟨h', g, d, t, os⟩) : wpAny (model prog w) A (call (.ref u) rest) Q E ⟨h, g, d, t, os⟩ := by
  obtain ⟨nm, N', qn, bs, bm, hdct, sn, sub, ab, col, dd, k0, k1, k2, k3, k5, hC, hT⟩ := excInit_of X q
  refine wpAny_call (codeAny_of_tree ?_)
  show wpAny _ A.in1 (callAny (.ref u) ⟨rest, []⟩) _ _ _
  simp only [callAny]
  refine wpAny_bind (wpAny_load hu ?_)
  simp only [kxs_mw, show (Value.type "method-wrapper" == Value.type "method" || Value.type "method-wrapper" == Value.type "builtin_function_or_method" || Value.type "method-wrapper" == Value.type "method-wrapper") = true by decide, if_true]
  refine KFB.if_so (by decide) ?_
  refine wpAny_bind (check_bound_init FB.toExcCallFacts hC he rfl ?_)
  refine wpAny_bind (wpAny_pure (wpAny_pure ?_))
  refine ⟨plainId_quiet FB.init.plain _, codeAny_builtin FB.initEntry ?_⟩
  exact exc_init_tree (cls := .ref C) (t0 := t0) (dv := none) (c2 := .none) (c3 := .none) (b4 := .bool false) he hz fun h' k e _ => hq h' _ k e
/-- self.f = v, the first one -/
theorem set_err {f : Str} {v : Value} {x t0 : Addr} {Q : Unit → Shared → Prop} (X : K.In h) (SF : StoreFacts B bmB "object.__setattr__" "object") (hx : h.get? x = some (excObj C t0 none .none)) (hs : findIn K (.ref C) "__setattr__" = some (some (.builtin "object.__setattr__"))) (hp : excOver K C bmB = true)
    (ht : takerIn K C f = some none) (hh : hasDictIn K C = true)
    (hq : ∀ h' tk dx, (∀ b o, b ≠ x → h.get? b = some o → h'.get? b = some o) → h.objs.size ≤ dx → h'.get? x = some (excObj C t0 (some dx) .none) → h'.Ns1 dx (fun y => if y = f then some v else none) → Q () ⟨h', g, d, tk, os⟩) :
    wpAny (model prog w) A (setAttr (.ref x) f v) Q E ⟨h, g, d, t, os⟩ := by
  have I : ∀ {h : Heap}, h.get? x = some (excObj C t0 none .none) → InstAt h x (excObj C t0 none .none) C none := fun e => ⟨e, rfl, rfl, trivial⟩
  have hxs : x ≠ h.objs.size := Nat.ne_of_lt (Heap.lt_size hx)
  refine set_plain (od := none) X (I hx) hs (osa_openX (od := none) (s := ⟨h, g, d, t + 1, os⟩) SF X (I hx) hp ht fun b => ?_)
  obtain ⟨cd, hc, hd'⟩ := any_some hh
  show wpAny _ _ (storeInOwnDict (.ref x) (.ref C) (.str f t) f v b) _ _ _
  refine wpAny_bind (wpAny_pure (wpAny_bind (instanceDict_exc hx (looks_clsIn X hc) hd' ?_)))
  show wpAny _ _ (storeInDict h.objs.size (.str f t) f v) _ _ _
  have hx1 : (h.push (dictOf [] 0)).get? x = some (excObj C t0 none .none) := Heap.get?_push_of_some _ hx
  refine PySem.HandSPX.store_in_new ?_ fun h' tk' hn' hsb => hq h' tk' h.objs.size (fun b o hb ho => ?_) (Nat.le_refl _) ?_ hn'
  · exact ⟨_, #[], _, (Heap.get?_update_ne _ _ _ _ hxs.symm).trans (Heap.get?_push_at rfl rfl), rfl, fun e he => absurd he (by simp), fun _ => rfl⟩
  · exact (hsb.2 b (Nat.ne_of_lt (Heap.lt_size ho))).trans ((Heap.get?_update_ne _ _ _ _ hb).trans (Heap.get?_push_of_some _ ho))
  · exact (hsb.2 x hxs).trans (Heap.get?_update_self _ hx1 rfl)
end
/-- an argument of super().__init__: it may look at the parameter y, and changes nothing -/
def ArgEv (arg : Expr) (y : Str) (u : Value) : Prop := ∀ {prog : Program} {w : World} {A : Around} {env : PySem.Env} {s : Shared} {m : Str → Option Value} {Q : Value → Shared → Prop} {E : Value → Shared → Prop}, env.scope.kind = .function → env.kindOf y = some .local →
  s.heap.Ns env.locals m → m y = some u → (∀ v tk, Q v { s with toks := tk }) → wpAny (model prog w) A (eval arg env) Q E s
theorem argEv_str {t : Str} {j : Nat} {p : Pos} {y : Str} {u : Value} : ArgEv (.Constant (.str t) j p) y u := fun _ _ _ _ q => Constant_str (q _ _)
/-- what the written part says of an error's class -/
structure ErrF (K : Frag) (prog : Program) (C fI cda cc : Addr) (B newId i : String) (bmB : List Value) (f sf y : Str) (arg : Expr) (st : Stmt) : Prop where
  FB : ExcBaseFacts B newId i bmB
  KF : KxsFacts B i
  SF : StoreFacts B bmB "object.__setattr__" "object"
  q : excInitIn K C bmB newId = true
  hi : findIn K (.ref C) "__init__" = some (some (.ref fI))
  ti : typeIn K (.ref fI) = some (.type "function")
  fn : ∃ qual kV doc pm an ct oc od osl, K.lookup fI = some ⟨oc, od, .func (ksFn "__init__" qual (defArgs st) (defBody st) (defScope st) .none kV doc pm an (.ref cda) ct cc), osl⟩ ∧ codeIn K (.ref cda) qual = true
  code : ∃ ccl cdd vs ccs file tf, K.lookup cda = some ⟨ccl, cdd, .fields vs, ccs⟩ ∧ vs[2]? = some (.str file tf) ∧ ((prog.main.file : Str) == file) = true
  cell : ∃ cl cld csl, K.lookup cc = some ⟨cl, cld, .cell (some (.ref C)), csl⟩
  cls : ∃ cd, clsIn K C = some cd
  self : mroIn K C (.ref C) = some true
  op : nsIn K cStatics "thirdparty.any" = some none
  sup : ks_superIn K C C "__init__" = some (some (.builtin i))
  hB : subIn K (.ref C) (.type B) = some true
  hs : findIn K (.ref C) "__setattr__" = some (some (.builtin "object.__setattr__"))
  ov : excOver K C bmB = true
  ht : takerIn K C f = some none
  hh : hasDictIn K C = true
  body : ∃ p0 p1 p2 p3 p4 p5 p6 p7 p8, defBody st = [.Expr (.Call (.Attribute (.Call (.Name "super" p0) [] [] p1) "__init__" p2) [arg] [] p3) p4, .Assign [.Attribute (.Name sf p5) f p6] (.Name y p7) p8] ∧
    ∀ (qual : Str) (L fI cda cc : Addr), (∃ pl : Sem Bool, eval (.Call (.Attribute (.Call (.Name "super" p0) [] [] p1) "__init__" p2) [arg] [] p3) (ksEnv qual (defScope st) L fI (.ref cda) cc) = (do
      let ov ← attributeBase (.Call (.Name "super" p0) [] [] p1) "__init__" (ksEnv qual (defScope st) L fI (.ref cda) cc) (eval (.Call (.Name "super" p0) [] [] p1) (ksEnv qual (defScope st) L fI (.ref cda) cc))
      standAt p2.atName
      let (f, first) ← holding [ov] (getMethod ov "__init__" pl)
      callWith p3 f first (backTo p3 (starEach [arg] (ksEnv qual (defScope st) L fI (.ref cda) cc))) [])) ∧ interactive (ksEnv qual (defScope st) L fI (.ref cda) cc) = false ∧
      starEach [arg] (ksEnv qual (defScope st) L fI (.ref cda) cc) = [(false, eval arg (ksEnv qual (defScope st) L fI (.ref cda) cc))] ∧
      swapsWith (.Name y p7) (some (.Attribute (.Name sf p5) f p6)) p8.line (ksEnv qual (defScope st) L fI (.ref cda) cc) = pure false
  args : defArgs st = { posonlyargs := [], args := (defArgs st).args, vararg := none, kwonlyargs := [], kw_defaults := [], kwarg := none, defaults := [] } ∧ (defArgs st).args.map (·.arg) = [sf, y]
  kind : (defScope st).kind = .function
  co : (defScope st).isCoroutine = false
  gen : (defScope st).isGenerator = false
  nocell : ∀ x ∈ (defScope st).names, x.2 ≠ .cell
  nS : (defScope st).names.lookup ("super" : Str) = some .globalImplicit
  nC : (defScope st).names.lookup ("__class__" : Str) = some .free
  n1 : (defScope st).names.lookup sf = some .local
  n2 : (defScope st).names.lookup y = some .local
  ne : sf ≠ y
  d1 : (sf == ("__debug__" : Str)) = false
  d2 : (y == ("__debug__" : Str)) = false
  bind : ∀ (qual : Str) (kV doc pm : Value) (an : Option Addr) (cdv ct : Value) (cc : Addr) (a b : Value), bindArgs (ksFn "__init__" qual (defArgs st) (defBody st) (defScope st) .none kV doc pm an cdv ct cc) ⟨[a, b], []⟩ = pure [(sf, a), (y, b)]
  top : (prog.main.scope.names.lookup ("super" : Str)).isSome = false
section
variable {prog : Program} {w : World} {A : Around} {K : Frag} {hp : Heap} {g : Array GenState} {d : Drawn} {t : Nat} {os : OsState} {B i newId : String} {bmB : List Value} {C fI cda cc e t0 : Addr} {f sf y : Str} {arg : Expr} {st : Stmt} {u : Value} {R : Result → Shared → Prop} {mg mb : Str → Option Value}
theorem init_run (T : ErrF K prog C fI cda cc B newId i bmB f sf y arg st) (X : K.In hp) (hg : hp.Ns mainGlobals mg) (hs0 : mg "super" = none) (hb : hp.Ns builtinsNs mb) (hbb : ∀ x : Str, x ≠ "__name__" → mb x = bootBuiltins x) (lim : hp.NoLimit) (hr : A.depth < recursionLimit)
    (he : hp.get? e = some (excObj C t0 none .none)) (eK : ¬ ∃ o, K.lookup e = some o) (ha : ArgEv arg y u)
    (hq : ∀ h' t1 tk dx, (∀ b o, b ≠ e → hp.get? b = some o → h'.get? b = some o) → h'.get? e = some (excObj C t1 (some dx) .none) → hp.objs.size ≤ dx → h'.Ns1 dx (fun z => if z = f then some u else none) → R (.ok (.ret .none)) ⟨h', g, d, tk, os⟩) :
    codeAny (model prog w) A (.call (.ref fI) ⟨[.ref e, u], []⟩) R ⟨hp, g, d, t, os⟩ := by
  obtain ⟨qual, kV, doc, pm, an, ct, oc, od, osl, lk, hcd⟩ := T.fn
  obtain ⟨ccl, cdd, vs, ccs, file, tf, hcode, hvs, hfile⟩ := T.code
  obtain ⟨cl, cld, csl, hcell⟩ := T.cell
  obtain ⟨cdD, hD⟩ := T.cls
  obtain ⟨p0, p1, p2, p3, p4, p5, p6, p7, p8, hbody, hsh⟩ := T.body
  obtain ⟨⟨pl, hev⟩, hint, hst, hsw⟩ := hsh qual hp.objs.size fI cda cc
  have hargs : ∃ a1 a2, (defArgs st).args = [a1, a2] ∧ a1.arg = sf ∧ a2.arg = y := by
    have z := T.args.2
    cases q : (defArgs st).args with
    | nil => rw [q] at z; cases z
    | cons a1 r => cases r with
      | nil => rw [q] at z; simp at z
      | cons a2 r => cases r with
        | nil => rw [q] at z; simp at z; exact ⟨a1, a2, rfl, z.1, z.2⟩
        | cons _ _ => rw [q] at z; simp at z
  obtain ⟨a1, a2, ea, e1, e2⟩ := hargs
  refine ks_codeAny_call_defAt (fd := ksFn "__init__" qual (defArgs st) (defBody st) (defScope st) .none kV doc pm an (.ref cda) ct cc) (body := defBody st) (binds := [(sf, .ref e), (y, u)]) hr (X _ _ lk) rfl lim (codeRec_of X hcd) rfl (.of_eq (T.bind _ _ _ _ _ _ _ _ _ _)) T.nocell (fun z hz => ?_) (fun h0 hns hk => ?_) T.co T.gen T.kind
  · rcases List.mem_cons.mp hz with rfl | hz
    · exact T.n1
    · rcases List.mem_cons.mp hz with rfl | hz
      · exact T.n2
      · cases hz
  have m1 : ([(sf, Value.ref e), (y, u)] : List (Str × Value)).reverse.lookup sf = some (.ref e) := by
    show ([(y, u), (sf, Value.ref e)] : List (Str × Value)).lookup sf = _
    rw [List.lookup_cons, beq_false_of_ne T.ne, List.lookup_cons, beq_self_eq_true]
  have m2 : ([(sf, Value.ref e), (y, u)] : List (Str × Value)).reverse.lookup y = some u := by
    show ([(y, u), (sf, Value.ref e)] : List (Str × Value)).lookup y = _
    rw [List.lookup_cons, beq_self_eq_true]
  have X0 : K.In h0 := X.keeps hk
  have he0 : h0.get? e = some (excObj C t0 none .none) := hk _ _ he
  have I0 : InstAt h0 e (excObj C t0 none .none) C none := ⟨he0, rfl, rfl, trivial⟩
  obtain ⟨oD, hD1, hD2⟩ : ∃ oD, K.lookup C = some oD ∧ oD.data = .cls cdD := by
    unfold clsIn at hD
    split at hD
    · rename_i c d cd' sl ho
      cases hD
      exact ⟨_, ho, rfl⟩
    · cases hD
  rw [hbody]
  show _root_.PySem.wpAt _ (A.deeper (ksEnv qual (defScope st) hp.objs.size fI (.ref cda) cc)) (.func _ (ksEnv qual (defScope st) hp.objs.size fI (.ref cda) cc)) (execs _ (ksEnv qual (defScope st) hp.objs.size fI (.ref cda) cc)) _ _ _
  refine ks_wpAt_execs_cons (ks_wpAt_Expr_any (ks_wpAt_MethodCall ?_ hev) hint)
  refine ks_wpAt_super_base (env := ksEnv qual (defScope st) hp.objs.size fI (.ref cda) cc) (ar := a1) T.nS T.nC (by decide) rfl (X0 _ _ lk) rfl (by show ((defArgs st).posonlyargs ++ (defArgs st).args).head? = _; rw [T.args.1, ea]; rfl) rfl (X0 _ _ hcode) rfl hvs hfile T.top ?_
  refine ks_loadName_global T.kind T.nS (loadGlobal_builtin (env := ksEnv qual (defScope st) hp.objs.size fI (.ref cda) cc) (hg.keeps hk) hs0 (hb.keeps hk) ((hbb _ (by decide +kernel)).trans PyProof.Rows.Boot.«super») ⟨rfl, ?_⟩)
  refine wpAny_loadName_free T.kind T.nC rfl ⟨_, X0 _ _ hcell, rfl⟩ ?_
  rw [e1]
  refine wpAny_loadName_local T.kind T.n1 hns m1 ?_
  refine ks_wpAny_isType_cls (X0 _ _ hD1) hD2 ⟨rfl, ?_⟩
  refine ks_wpAny_call_super (X0 _ _ hD1) hD2 he0 rfl (fun c z => nomatch z) (looks_mroIn X0 T.self) (fun h1 e3 k1 => ?_)
  have so1 : h1.get? h0.objs.size = some (ks_superObj C e C) := e3
  have X1 : K.In h1 := X0.keeps k1
  have I1 : InstAt h1 e (excObj C t0 none .none) C none := ⟨k1 _ _ he0, rfl, rfl, trivial⟩
  have hI : Looks (model prog w) h1 (isInstance (.ref e) (.type B)) true := I1.type.andThen (looks_subIn X1 T.hB)
  have hsup := T.sup
  unfold ks_superIn at hsup
  rw [hD] at hsup
  refine kxs_getMethod T.KF so1 (looks_opaque X1 T.op) (l₀ := cdD.mro) (fun A Q E s k q => wpAny_bind ((looks_clsIn X1 hD) A _ E s k (wpAny_pure q))) rfl X1 hsup hI (ks_ne X1 I1 hD) (by decide) ?_
  have k2 : ∀ b o, h1.get? b = some o → (h1.push (kxs_mw i e)).get? b = some o := fun b o z => Heap.get?_push_of_some _ z
  have mw : (h1.push (kxs_mw i e)).get? h1.objs.size = some (kxs_mw i e) := Heap.get?_push_at rfl rfl
  have hns2 : (h1.push (kxs_mw i e)).Ns hp.objs.size _ := (hns.keeps k1).keeps k2
  rw [hst]
  refine kxs_callWith (i := i) (x := e) (by rfl) ?_
  refine evalArgs_plain (spliced_cons (ha T.kind T.n2 hns2 m2 fun v tk => spliced_nil ⟨mw, ?_⟩))
  refine call_mw (X1.keeps k2) T.FB T.q mw (k2 _ _ I1.at_) (by show 1 ≤ sizeLine; rw [sizeLine_eq]; omega) fun h3 t3 k3 he3 => ?_
  have neL : hp.objs.size ≠ e := Nat.ne_of_gt (Heap.lt_size he)
  have hns3 : h3.Ns hp.objs.size (fun x => ([(sf, Value.ref e), (y, u)] : List (Str × Value)).reverse.lookup x) := by
    obtain ⟨oL, es, ep, hL, r⟩ := hns2
    exact ⟨oL, es, ep, k3 _ _ neL hL, r⟩
  have keep3 : ∀ b o, b ≠ e → hp.get? b = some o → h3.get? b = some o := fun b o nb z => k3 b o nb (k2 _ _ (k1 _ _ (hk _ _ z)))
  have X3 : K.In h3 := fun b o z => keep3 b o (fun q => eK (by rw [← q]; exact ⟨_, z⟩)) (X b o z)
  refine wpAt_of_wpAny (wpAny_execs_cons ?_)
  refine plainObj_wpAny_Assign_Attribute (wpAny_Name (wpAny_loadName_local T.kind T.n2 hns3 m2 ?_) T.d2) hsw
  refine wpAny_Name (wpAny_loadName_local T.kind T.n1 hns3 m1 ?_) T.d1
  have hsz : hp.objs.size ≤ h3.objs.size := by
    obtain ⟨oL, es, ep, hL, r⟩ := hns3
    exact Nat.le_of_lt (Heap.lt_size hL)
  refine set_err X3 T.SF he3 T.hs T.ov T.ht T.hh fun h4 tk4 dx k4 hdx he4 hn4 => ?_
  exact wpAny_execs_nil (hq h4 t3 tk4 dx (fun b o nb z => k4 b o nb (keep3 b o nb z)) he4 (Nat.le_trans hsz hdx) hn4)
end
end Dk
set_option exponentiation.threshold 256
namespace Dk
open PySem PySem.W PySem.Spec PyProof.Rows L2
variable [tabP : TabP]
variable {K : PySem.W.Frag}
/-- .. by name; ok: what the argument of super().__init__ asks of v -/
structure ErrN (K : PySem.W.Frag) (prog : Program) (mg : Str → Option Value) (x f : Str) (ok : D → Bool) : Prop where
  ex : ∃ C fI cda cc B newId i bmB sf y arg st, ErrF K prog C fI cda cc B newId i bmB f sf y arg st ∧ mg x = some (.ref C) ∧ mg "super" = none ∧ PySem.W.nsIn K mainGlobals x = some (some (.ref C)) ∧ PySem.W.keepIn K (.ref C) = true ∧
    PySem.W.subIn K (.ref C) (.type "BaseException") = some true ∧ PySem.W.typeIn K (.ref C) = some (.type "type") ∧ ∀ (F : Hp) v d u, Rp K F v d → ok d = true → RelV v u → ArgEv arg y u
def raI (x f : Str) (ok : D → Bool) (m : ME) : MX := fun e => (m e).bind fun p => (tk p.2 p.1).bind fun q => (okB (ok q.1)).map fun _ => (⟨x, [(f, q.1)]⟩, q.2)
def tMkI (K : PySem.W.Frag) (x f : Str) (ok : D → Bool) (te : TE) : L2.St → Hp → XK → Prop := fun σ H Q => te σ H fun x0 H1 => ∃ v, [x0] = [v] ∧ ∃ F d, Rp K F v d ∧ ok d = true ∧ ∀ C dx, PySem.W.nsIn K mainGlobals x = some (some (.ref C)) → H1 dx = none → Q (.ref C) (some dx) (upd H1 dx (.xd [(f, v)]))
section
variable {X : Cx} {k : Nat} {x f : Str} {ok : D → Bool} {p pos pos2 : Pos} {a : Expr} {te : TE} {W : WX} {m : ME}
theorem pmk_own1 (T : ErrN X.K X.prog X.mg x f ok) (hr : Room (k + 2) X.A) (ha : PE X a te) (hg : Gl X x := by rfl) (hdb : (x == ("__debug__" : Str)) = false := by decide)
    (hst : starEach [a] X.env = (false, eval a X.env) :: starEach [] X.env := by rfl) : PMk X (.Call (.Name x p) [a] [] pos) (tMkI X.K x f ok te) := by
  intro pins s σ H Q I h
  obtain ⟨C, fI, cda, cc, B, newId, i, bmB, sf, y, arg, st, T, gC, gS, nC, kC, sub, ty, hA⟩ := T.ex
  refine wpAny_Call_Name_kw (ld_glob I hg gC ?_ hdb)
  have haa : PA X [a] (tCons te tNil) := pa_cons ha pa_nil hst
  refine PySem.W.callWith_K (h₀ := X.base) I.ok.mod.kin kC (thn (haa.run pos pins s σ H (fun vs H1 => ∃ v, vs = [v] ∧ ∃ F d, Rp X.K F v d ∧ ok d = true ∧ ∀ C dx, PySem.W.nsIn X.K mainGlobals x = some (some (.ref C)) → H1 dx = none → Q (.ref C) (some dx) (upd H1 dx (.xd [(f, v)]))) I
    h) fun us s1 hh => ?_) hst (by rfl)
  obtain ⟨vs, H1, I1, r1, v, ev, F, d, rp, hok, hQ⟩ := hh
  subst ev
  cases r1 with
  | cons ru rn =>
  rename_i u us'
  cases rn
  refine ⟨I1.kIn, ?_⟩
  show wpAny _ _ (call (.ref C) [u]) _ _ _
  obtain ⟨hp, g, dr, tk, os⟩ := s1
  obtain ⟨nm, N', qn, bs, bm, hdct, sn, sub2, ab, col, dd, k0, k1, k2, k3, k5, hC, hT⟩ := excInit_of I1.kIn T.q
  have kk : ∀ b o, hp.get? b = some o → ((hp.push (PySem.W.kdv_tup [u])).push (PySem.HandSPX.excO C hp.objs.size)).get? b = some o := fun b o e => Heap.get?_push_of_some _ (Heap.get?_push_of_some _ e)
  have hget : ((hp.push (PySem.W.kdv_tup [u])).push (PySem.HandSPX.excO C hp.objs.size)).get? (hp.objs.size + 1) = some (PySem.HandSPX.excO C hp.objs.size) := by heap_get
  have eK : ¬ ∃ o, X.K.lookup (hp.objs.size + 1) = some o := fun ⟨o, z⟩ => by
    have q : hp.objs.size + 1 < hp.objs.size := Heap.lt_size (I1.kIn _ _ z)
    omega
  obtain ⟨mb, hb, hbb⟩ := I1.ok.mod.blt
  have bk := I1.bk
  refine wpAny_call (PySem.HandSPX.call_own T.FB hT hC (PySem.W.looks_findIn I1.kIn T.hi) (fun self => PySem.W.bind_fn I1.kIn self T.ti) (by show 1 ≤ sizeLine; rw [sizeLine_eq]; omega) (init_run T (I1.kIn.keeps kk) ((I1.ok.mod.glob.keeps bk).keeps kk) gS ((hb.keeps bk).keeps kk) hbb ((I1.ok.mod.nolimit.keeps bk).keeps kk) ((hr.make C [u] []).depth) hget eK (hA F v d u rp hok ru)
    fun h' t1 tk2 dx k4 he hdx hn => ?_))
  refine ⟨rfl, ?_⟩
  have szp : ((hp.push (PySem.W.kdv_tup [u])).push (PySem.HandSPX.excO C hp.objs.size)).objs.size = hp.objs.size + 2 := by rw [Heap.size_push, Heap.size_push]
  have hdx : hp.objs.size + 2 ≤ dx := by rw [← szp]; exact hdx
  have nd : dx ≠ hp.objs.size + 1 := Nat.ne_of_gt (Nat.lt_of_lt_of_le (Nat.lt_succ_self _) hdx)
  have hle : hp.objs.size ≤ dx := Nat.le_trans (Nat.le_add_right _ 2) hdx
  obtain ⟨G, g1', g2'⟩ := restrict h' fun b => decide (b ≠ hp.objs.size + 1)
  have gk : ∀ b, b ≠ hp.objs.size + 1 → G.get? b = h'.get? b := fun b hb => g1' b (decide_eq_true hb)
  have ge : G.get? (hp.objs.size + 1) = none := g2' _ (by simp)
  have keepG : ∀ b o, hp.get? b = some o → G.get? b = some o := fun b o z => by
    have nb : b ≠ hp.objs.size + 1 := Nat.ne_of_lt (Nat.lt_of_lt_of_le (Heap.lt_size z) (Nat.le_succ _))
    rw [gk b nb]
    exact k4 b o nb (kk b o z)
  have hnd : H1 dx = none := I1.hok.fresh hle
  have J : Inv X pins σ (upd H1 dx (.xd [(f, v)])) ⟨G, g, dr, tk2, os⟩ := I1.laid (t' := tk2) (a := dx) (o := .xd [(f, v)]) (h' := G) keepG hle
    ⟨_, hn.at fun o z => (gk dx nd).trans z, fun z => by
      show RelO (([(f, v)] : List (Str × V)).lookup z) (if z = f then some u else none)
      by_cases e : z = f
      · subst e; rw [List.lookup_cons, beq_self_eq_true, if_pos rfl]; exact ru
      · rw [List.lookup_cons, beq_false_of_ne e, if_neg e]; exact True.intro⟩
  have na : upd H1 dx (.xd [(f, v)]) (hp.objs.size + 1) = none := by
    rw [upd_ne (Ne.symm nd)]
    exact I1.hok.fresh (by show hp.objs.size ≤ _; omega)
  exact ⟨hp.objs.size + 1, _, _, ⟨G, g, dr, tk2, os⟩, _, .ref C, some dx, rfl, J, fun b o z => by
    by_cases nb : b = hp.objs.size + 1
    · rw [nb, ge] at z; cases z
    · rw [← gk b nb]; exact z, ge, he, ⟨rfl, rfl⟩, rfl, rfl, na, rfl, I1.bare, raises_own sub ty, hQ C dx nC hnd⟩
theorem z_raiseI (T : ErrN X.K X.prog X.mg x f ok) (hr : Room (k + 2) X.A) (hc : X.calm = true) (tk : Takes X W) (ha : PE X a (rE X.K m)) (hg : Gl X x := by rfl) (hdb : (x == ("__debug__" : Str)) = false := by decide)
    (hst : starEach [a] X.env = (false, eval a X.env) :: starEach [] X.env := by rfl) : PS X (.Raise (some (.Call (.Name x p) [a] [] pos)) none pos2) (zS X.K W (raI x f ok m)) :=
  impS (ps_raise hc tk (pmk_own1 T hr ha hg hdb hst)) fun G σ H q => by
    obtain ⟨F0, Gd, ios, F, e, os, x', e', w, hm, q⟩ := q
    unfold raI at hm
    obtain ⟨⟨l, e1⟩, h1, hm⟩ := Option.bind_eq_some_iff.mp hm
    obtain ⟨⟨d, e2⟩, h2, hm⟩ := Option.bind_eq_some_iff.mp hm
    obtain ⟨_, h3, hm⟩ := Option.map_eq_some_iff.mp hm
    cases hm
    refine ⟨F0, Gd, ios, F, e, os, l, e1, w, h1, fun F1 H1 os1 v W1 s1 k1 => ?_⟩
    obtain ⟨F2, os2, W2, s2, r⟩ := W1.take k1 h2
    refine ⟨v, rfl, F2, d, r, okB_iff h3, fun C dx nC hn => ?_⟩
    have ex := Ext.new (o := .xd [(f, v)]) W2.fh hn
    have s3 : Sm F2 (upd F2 dx (.xd [(f, v)])) := ex.f
    exact q _ _ σ os2 (.ref C) (some dx) (W2.ext ex) ((s1.trans s2).trans s3) ⟨⟨C, nC, rfl⟩, .inr ⟨dx, _, rfl, upd_same, .cons (r.mono s3) .nil⟩⟩
end
end Dk
set_option exponentiation.threshold 256
namespace Dk
open PySem PySem.W PySem.Spec PyProof.Rows L2
variable [tabP : TabP]
variable {K : PySem.W.Frag}
def okInt : D → Bool
  | .int i => decide (i.natAbs.log2 < 1920)
  | _ => false
def okAny : D → Bool := fun _ => true
theorem argEv_fmt {t1 t2 : Str} {j1 j2 : Nat} {p1 p2 p3 p4 p5 : Pos} {y : Str} (hd : (y == ("__debug__" : Str)) = false := by decide) (h1 : t1.length ≤ 100 := by decide) (h2 : t2.length ≤ 100 := by decide) :
    ∀ (F : Hp) v d u, Rp K F v d → okInt d = true → RelV v u → ArgEv (.JoinedStr [.Constant (.str t1) j1 p1, .FormattedValue (.Name y p2) (-1) none p3, .Constant (.str t2) j2 p4] p5) y u := by
  intro F v d u r hok rv prog w A env s m Q E hk hy hn hm q
  cases d <;> try (cases hok; done)
  rename_i i
  cases r
  obtain ⟨tk, rfl⟩ := rv
  have hz : i.natAbs.log2 < 1920 := of_decide_eq_true hok
  have lt : (toString i : Str).length ≤ sizeLine := int_text_fits hz
  have lt2 : (toString i : Str).length ≤ 2000 := by
    have e := int_text_length_le (k := 1920) (by decide) hz
    rw [PySem.ofString_length]; omega
  refine wpAny_JoinedStr ?_
  show wpAny _ _ (eval (.Constant (.str t1) j1 p1) env) _ _ _
  refine PySem.Calls.Constant_str ⟨t1, _, rfl, ?_, ?_⟩
  · rw [strLen_append, sizeLine_eq]; show 0 + _ ≤ _; omega
  show wpAny _ _ (eval (.FormattedValue (.Name y p2) (-1) none p3) env) _ _ _
  refine FormattedValue_plain (wpAny_Name (wpAny_loadName_local hk hy hn hm (wpAny_formatField_int hz ⟨toString i, _, rfl, ?_, ?_⟩)) hd)
  · rw [strLen_append, strLen_append, sizeLine_eq]; show 0 + _ + _ ≤ _; omega
  show wpAny _ _ (eval (.Constant (.str t2) j2 p4) env) _ _ _
  refine PySem.Calls.Constant_str ⟨t2, _, rfl, ?_, ?_⟩
  · rw [strLen_append, strLen_append, strLen_append, sizeLine_eq]; show 0 + _ + _ + _ ≤ _; omega
  exact ⟨by rw [strLen_append, strLen_append, strLen_append, sizeLine_eq]; show 0 + _ + _ + _ ≤ _; omega, q _ _⟩
end Dk
set_option exponentiation.threshold 256
namespace Dk
open PySem PySem.Spec PyProof.Rows L2
abbrev TsX := Addr → Value → Option Addr → TS
def endsN (D : Ends) : Option Nat → Ends
  | none => D
  | some i => { nx := fun σ' H' => D.nx (σ'.set i none) H', rt := D.rt, bk := fun σ' H' => D.bk (σ'.set i none) H', ct := fun σ' H' => D.ct (σ'.set i none) H' }
def stN (σ : L2.St) (a : Addr) : Option Nat → L2.St
  | none => σ
  | some i => σ.set i (some (.ref a))
def wManyN (K : PySem.W.Frag) (Wout : WX) (D : Ends) : List (Value × Option Nat × TsX) → WX
  | [] => Wout
  | (c, oi, ts) :: r => fun cls d σ H => ∃ b, PySem.W.exmOne K cls c = some b ∧ (b = true → ∀ a, H a = none → ts a cls d (endsN D oi) (stN σ a oi) H) ∧ (b = false → wManyN K Wout D r cls d σ H)
inductive HdsN (X : Cx) : List ExceptHandler → List (Value × Option Nat × TsX) → Prop
  | nil : HdsN X [] []
  | plain {x : Str} {c : Value} {ts : TsX} {b₀ : Stmt} {suite : List Stmt} {np pos' : Pos} {hds : List ExceptHandler} {l : List (Value × Option Nat × TsX)} (hc : Names X x c)
      (hsu : ∀ (a : Addr) (oe : Obj) (cls : Value) (d : Option Addr) (pn : List (Addr × Obj)), Zc cls d oe → (∃ vs, oe.data = .fields vs) → PSs (X.suite a ((a, oe) :: pn)) (b₀ :: suite) (ts a cls d)) (r : HdsN X hds l) :
      HdsN X (.ExceptHandler (some (.Name x np)) none (b₀ :: suite) pos' :: hds) ((c, none, ts) :: l)
  | named {x n : Str} {i : Nat} {c : Value} {ts : TsX} {b₀ : Stmt} {suite : List Stmt} {np pos' : Pos} {hds : List ExceptHandler} {l : List (Value × Option Nat × TsX)} (hc : Names X x c) (hi : X.N[i]? = some n) (hln : X.env.kindOf n = some .local)
      (hsu : ∀ (a : Addr) (oe : Obj) (cls : Value) (d : Option Addr) (pn : List (Addr × Obj)), Zc cls d oe → (∃ vs, oe.data = .fields vs) → PSs (X.suite a ((a, oe) :: pn)) (b₀ :: suite) (ts a cls d)) (r : HdsN X hds l) :
      HdsN X (.ExceptHandler (some (.Name x np)) (some n) (b₀ :: suite) pos' :: hds) ((c, some i, ts) :: l)
section
variable {X : Cx} {body : List Stmt} {h₀ : ExceptHandler} {hds : List ExceptHandler} {l : List (Value × Option Nat × TsX)} {pos : Pos} {tb : WX → TS} {Wout : WX}
theorem ps_try_n (hs : X.stack = X.env :: X.outer) (hf : X.env.frame = some X.env.locals) (hN : X.N.Nodup) (tk : Takes X Wout)
    (hb : ∀ (W : WX) (pn : List (Addr × Obj)) (xe : Value → Shared → Prop), Takes (X.tr pn xe) W → PassesOwn (model X.prog X.w) X.A X.env xe → PSs (X.tr pn xe) body (tb W))
    (hh : HdsN X (h₀ :: hds) l) : PS X (.Try body (h₀ :: hds) [] [] pos) (fun D σ H => tb (wManyN X.K Wout D l) D σ H) := by
  refine ⟨fun pins s σ H D I h => ?_⟩
  have ok := I.ok
  have hfr : X.A.frames = some (X.env :: X.outer) := by rw [ok.frames, hs]
  refine wpAny_Try_except ?_
  refine wpAny_mono ((hb (wManyN X.K Wout D l) (X.pn ++ pins) (fun e s₁ => wpAny (model X.prog X.w) X.A (noteFrame e X.env) (fun _ s₂ => wpAny (model X.prog X.w) X.A (setFlight e none) (fun _ s₃ =>
    wpAny (model X.prog X.w) X.A (handleBy e X.env (h₀ :: hds)) (SP X pins D) X.xe s₃) X.xe s₂) X.xe s₁) (fun u s' xx => ?_) PassesOwn.looking).run [] s σ H D (I.toTry _) h) (fun f s1 hsp => ?_) (fun e s1 he => he)
  · obtain ⟨a, B, sI, pins', σ', H', cls, d, rfl, J', nb, up, sky, na, os, ag, w⟩ := xx
    have J : Inv X pins σ' H' sI := J'.ofTry ok
    have sky' : Sky B (X.env :: X.outer) a (Zc cls d) X.env.locals s'.heap := by rw [← hs]; exact sky
    show wpAny (model X.prog X.w) X.A (noteFrame (.ref a) X.env) _ _ _
    refine Sky.land Zc.steady hfr hf sky' fun h3 fl3 up3 => ?_
    have J3 : Inv X pins σ' H' { s' with heap := h3 } := J.landed nb fl3.1 (up.trans up3) os ag
    obtain ⟨oe3, vs3, he3, hz3, hd3⟩ := fl3.there
    have nfr : a ∉ frs (X.env :: X.outer) := fun hm => by
      obtain ⟨_, o', e', hnf⟩ := fl3.2.2.1.mem hm
      rw [he3] at e'; cases e'
      exact hnf _ hd3
    have nL : a ≠ X.env.locals := fun z => nfr (List.mem_filterMap.mpr ⟨X.env, List.mem_cons_self, by rw [hf, z]⟩)
    have nF : a ∉ X.fs := fun hm => by
      obtain ⟨e, he, q⟩ := List.mem_filterMap.mp hm
      exact nfr (List.mem_filterMap.mpr ⟨e, List.mem_cons_of_mem _ he, q⟩)
    have S3 := J3.suite he3 hd3 na nL nF
    have test : ∀ {x : Str} {c : Value} {np : Pos} {Q : Value → Shared → Prop} {E : Value → Shared → Prop}, Names X x c → Q c { s' with heap := h3 } → wpAny (model X.prog X.w) (X.A.mark (some (.ref a))) (eval (.Name x np) X.env) Q E { s' with heap := h3 } := fun {x c np Q E} hc q => by
      obtain ⟨hg, hdbg, hm | ⟨hm, hv, hnn⟩⟩ := hc
      · exact ld_glob (X := X.suite a ((a, oe3) :: (X.pn ++ pins))) S3 hg hm q hdbg
      · exact ld_blt (X := X.suite a ((a, oe3) :: (X.pn ++ pins))) S3 hg hm hv q hnn hdbg
    have LT : PySem.W.Looks (model X.prog X.w) h3 (typeOf (.ref a)) cls := fun A Q E s k q => wpAny_typeOf_ref (k _ _ he3) (by rw [hz3.1]; exact q)
    have go : ∀ {hds' : List ExceptHandler} {l' : List (Value × Option Nat × TsX)}, HdsN X hds' l' → wManyN X.K Wout D l' cls d σ' H' →
        wpAny (model X.prog X.w) X.A (handleBy (.ref a) X.env hds') (SP X pins D) X.xe { s' with heap := h3 } := by
      intro hds' l' hk
      induction hk with
      | nil =>
        intro w
        refine wpAny_handleBy_nil ?_
        obtain ⟨k1, k2, k3, oe, vs, T, oT, ts', he, hz, hd, h1, hr⟩ := id fl3
        unfold PySem.passOn
        refine wpAny_bind (wpAny_field he hd h1 ?_)
        rw [if_neg (show ¬ ((Value.ref T == Value.none) = true) from by simp)]
        have fin : wpAny (model X.prog X.w) X.A (setFlight (.ref a) X.env.frame) (fun _ s4 => wpAny (model X.prog X.w) X.A (throw (.ref a) : Sem Flow) (SP X pins D) X.xe s4) X.xe { s' with heap := h3 } := by
          rw [hf]
          refine HandSPX.setFlight_upZ fl3 fun h4 hh4 up4 => wpAny_throw (tk _ _ ?_)
          exact ⟨a, B, sI, pins, σ', H', cls, d, rfl, J, nb, (up.trans up3).trans up4, .inr (.inr (by rw [hs]; exact hh4)), na, os, ag, w⟩
        first
          | exact wpAny_bind (wpAny_pure (wpAny_bind fin))
          | exact wpAny_bind fin
      | @plain x c ts b₀ suite np pos' hds2 l2 hc hsu r ih =>
        intro w
        obtain ⟨b, hb1, hyes, hno⟩ := w
        refine wpAny_handleBy_cons (codeAny_handlers_test ?_) (by intro q; cases q)
        refine test hc ((PySem.W.exm_one (M := model X.prog X.w) (J3.kIn) LT hb1).here ?_)
        cases b with
        | true =>
          refine codeAny_handlers_suite ?_
          refine HandSPX.lands_againZ fl3 fun h4 fl4 up4 => ?_
          have J4 : Inv X pins σ' H' { s' with heap := h4 } := J.landed nb fl4.1 ((up.trans up3).trans up4) os ag
          obtain ⟨oe4, vs4, he4, hz4, hd4⟩ := fl4.there
          have S4 := J4.suite he4 hd4 na nL nF
          refine wpAny_mono ((hsu a oe4 cls d (X.pn ++ pins) hz4 ⟨_, hd4⟩).run [] _ _ H' _ S4 (hyes rfl a na)) (fun f s6 hsp => ?_) (fun _ _ z => False.elim z)
          cases f with
          | next => obtain ⟨σ6, H6, S6, q6⟩ := hsp; exact ⟨_, _, S6.unsuite ok, q6⟩
          | brk => obtain ⟨σ6, H6, S6, q6⟩ := hsp; exact ⟨_, _, S6.unsuite ok, q6⟩
          | cont => obtain ⟨σ6, H6, S6, q6⟩ := hsp; exact ⟨_, _, S6.unsuite ok, q6⟩
          | ret u => obtain ⟨v6, σ6, H6, S6, r6, q6⟩ := hsp; exact ⟨_, _, _, S6.unsuite ok, r6, q6⟩
        | false =>
          show wpAny _ X.A (handleBy (.ref a) X.env hds2) _ _ _
          exact ih (hno rfl)
      | @named x n i c ts b₀ suite np pos' hds2 l2 hc hi hln hsu r ih =>
        intro w
        obtain ⟨b, hb1, hyes, hno⟩ := w
        refine wpAny_handleBy_cons (codeAny_handlers_test ?_) (by intro q; cases q)
        refine test hc ((PySem.W.exm_one (M := model X.prog X.w) (J3.kIn) LT hb1).here ?_)
        cases b with
        | true =>
          refine codeAny_handlers_suite_as ?_
          refine HandSPX.lands_againZ fl3 fun h4 fl4 up4 => ?_
          have J4 : Inv X pins σ' H' { s' with heap := h4 } := J.landed nb fl4.1 ((up.trans up3).trans up4) os ag
          obtain ⟨oe4, vs4, he4, hz4, hd4⟩ := fl4.there
          have S4 := J4.suite he4 hd4 na nL nF
          refine store_ok (X := X.suite a ((a, oe4) :: (X.pn ++ pins))) (v := .ref a) S4 hN hi (.inl hln) rfl (fun s5 S5 => ?_) (.inr hln)
          refine wpAny_mono ((hsu a oe4 cls d (X.pn ++ pins) hz4 ⟨_, hd4⟩).run [] s5 _ H' _ S5 (hyes rfl a na)) (fun f s6 hsp => ?_) (fun _ _ z => False.elim z)
          have end_ : ∀ {σ6 : L2.St} {H6 : Hp} {Q : Shared → Prop}, Inv (X.suite a ((a, oe4) :: (X.pn ++ pins))) [] σ6 H6 s6 → (∀ s7, Inv X pins (σ6.set i none) H6 s7 → Q s7) →
              wpAny (model X.prog X.w) X.A (do bindName X.env n .none; unbindBehindTheSuite X.env n pos') (fun _ s7 => Q s7) X.xe s6 := fun {σ6 H6 Q} S6 hq => gone_ok (S6.unsuite ok) hN hi hln hq
          cases f with
          | next => obtain ⟨σ6, H6, S6, q6⟩ := hsp; exact end_ S6 fun s7 J7 => ⟨_, _, J7, q6⟩
          | brk => obtain ⟨σ6, H6, S6, q6⟩ := hsp; exact end_ S6 fun s7 J7 => ⟨_, _, J7, q6⟩
          | cont => obtain ⟨σ6, H6, S6, q6⟩ := hsp; exact end_ S6 fun s7 J7 => ⟨_, _, J7, q6⟩
          | ret u => obtain ⟨v6, σ6, H6, S6, r6, q6⟩ := hsp; exact end_ S6 fun s7 J7 => ⟨_, _, _, J7, r6, q6⟩
        | false =>
          show wpAny _ X.A (handleBy (.ref a) X.env hds2) _ _ _
          exact ih (hno rfl)
    exact go hh w
  · cases f with
    | next => obtain ⟨σ', H', J', q⟩ := hsp; exact wpAny_execs_nil ⟨σ', H', J'.ofTry ok, q⟩
    | brk => obtain ⟨σ', H', J', q⟩ := hsp; exact ⟨σ', H', J'.ofTry ok, q⟩
    | cont => obtain ⟨σ', H', J', q⟩ := hsp; exact ⟨σ', H', J'.ofTry ok, q⟩
    | ret u => obtain ⟨v, σ', H', J', r, q⟩ := hsp; exact ⟨v, σ', H', J'.ofTry ok, r, q⟩
end
end Dk
set_option exponentiation.threshold 256
namespace Dk
open PySem PySem.Spec PyProof.Rows L2
abbrev lamCz (X : Cx) (A : Around) (outer : List PySem.Env) (s : Shared) (H : Hp) (E : XK) (scope : Scope) (f c : Addr) (js : List Nat) : Cx := { LamX.lamCx X A outer s H E scope f c with N := lamN X.N js [] }
theorem pe_act0 {X : Cx} {pins : List (Addr × Obj)} {σ : L2.St} {H : Hp} {s : Shared} {Ng : List Str} {qg : Str} {sg : Scope} {g f c : Addr} {cdg pm ct : Value} {ar : Arguments} {bd : Expr} {scope : Scope} {k i : Nat} {a : Str} {js : List Nat} {p1 p2 : Pos} {tb : XK → TE} {pn : List (Addr × Obj)} {xe : Value → Shared → Prop} {W : WX}
    (I : Inv X pins σ H s) (L : LamY X.env.scope scope []) (hj : CapOk X.N scope js) (hf : s.heap.get? f = some (PySem.W.kla_obj "<lambda>" (X.env.qual ++ "<lambda>") ar bd scope (cloFrom X.env.cells scope.names []) pm c ct)) (hfn : H f = none) (hfr : f ∉ frs X.stack)
    (hbind : bindArgs (PySem.W.kla_fn "<lambda>" (X.env.qual ++ "<lambda>") ar bd scope (cloFrom X.env.cells scope.names []) pm (.ref c) ct) ⟨[], []⟩ = pure [])
    (tk : Takes ((defCx X.prog X.w X.K X.mg X.base Ng qg sg g cdg X.A X.stack s H).tr pn xe) W) (hr : Room (k + 1) (X.A.deeper (envOfC qg sg s.heap.objs.size g cdg))) (hgd : X.A.guards = some [])
    (hbody : ∀ (A : Around) (outer : List PySem.Env) (s : Shared) (H : Hp) (E : XK), Room k (A.deeper (LamX.lamEnv X scope s.heap.objs.size f c)) → (A.deeper (LamX.lamEnv X scope s.heap.objs.size f c)).guards = some [] → PE (lamCz X A outer s H E scope f c js) bd (tb E))
    (hN : Ng[i]? = some a) (hv : Vis sg a) (hd : (a == ("__debug__" : Str)) = false := by decide) (hcd : (a == ("__classdict__" : Str)) = false := by decide) :
    PE ((defCx X.prog X.w X.K X.mg X.base Ng qg sg g cdg X.A X.stack s H).tr pn xe) (.Call (.Name a p1) [] [] p2) (fun σZ HZ Q => σZ[i]? = some (some (.ref f)) ∧ HZ c = some (LamX.CodeO c (X.env.qual ++ "<lambda>")) ∧ tb (fun cls d H' => W cls d σZ H') (lamSt σ js []) HZ Q) := by
  refine ⟨fun pinsZ sZ σZ HZ Q IZ h => ?_⟩
  obtain ⟨hs1, hc, htb⟩ := h
  refine wpAny_Call_Name_kw (thn ((pe_var (pos := p1) (i := i) hN hv hd hcd).run pinsZ sZ σZ HZ (fun v H1 => v = .ref f ∧ H1 = HZ) IZ ⟨.ref f, hs1, rfl, rfl⟩) fun u s1 ⟨v, H1, I1, r1, q1⟩ => ?_)
  obtain ⟨ev, eH⟩ := q1
  subst ev
  subst eH
  obtain rfl : u = Value.ref f := r1
  have at1 : s1.heap.get? f = some (PySem.W.kla_obj "<lambda>" (X.env.qual ++ "<lambda>") ar bd scope (cloFrom X.env.cells scope.names []) pm c ct) := I1.base.keep f _ hf hfn hfr (fun z => nomatch (show f ∈ ([] : List Addr) from z))
  refine PySem.W.callWith_F0 ⟨_, _, _, _, at1⟩ ?_
  have un : Un (frs X.stack) [] H H1 s.heap s1.heap := I1.base
  obtain ⟨⟨oc, cs, t, hoc, hdc, hvc⟩, _, _⟩ := I1.hok c _ hc
  have rc : codeAny (model X.prog X.w) (X.A.deeper (envOfC qg sg s.heap.objs.size g cdg)) (.call (.ref f) ⟨[], []⟩) (CR (L2.CX X.prog X.w) (envOfC qg sg s.heap.objs.size g cdg :: X.stack) X.prog X.w H1 s1 Q fun cls d H' => W cls d σZ H') s1 := by
    refine PySem.W.kla_callFunE hr.depth at1 rfl L.co L.gen rfl ⟨c, oc, cs, t, rfl, hoc, hdc, hvc⟩ ?_
    rw [hbind]
    refine wpAny_pure (wpAny_newFunctionEnv L.own (fun z hz => absurd hz (by simp)) (fun h1 hns hsb => ⟨I1.nolimit.fresh _ hsb, ?_⟩) L.kind)
    show codeAny _ _ (.expr bd (LamX.lamEnv X scope s1.heap.objs.size f c)) _ _
    have kp : ∀ b o, s1.heap.get? b = some o → h1.get? b = some o := fun b o z => hsb.extBut b o (Nat.ne_of_lt (Heap.lt_size z)) (Heap.get?_push_of_some _ z)
    have J : Inv (lamCy X (X.A.deeper (envOfC qg sg s.heap.objs.size g cdg)) (envOfC qg sg s.heap.objs.size g cdg :: X.stack) s1 H1 scope f c js []) [] (lamSt σ js []) H1 { s1 with heap := h1, toks := s1.toks + ([] : List (Str × Value)).length } :=
      lam_in (ws := []) (us := []) I L hj I1.env0 hr.hd un hns kp .nil rfl
    have J2 : Inv (lamCz X (X.A.deeper (envOfC qg sg s.heap.objs.size g cdg)) (envOfC qg sg s.heap.objs.size g cdg :: X.stack) s1 H1 (fun cls d H' => W cls d σZ H') scope f c js) [] (lamSt σ js []) H1 { s1 with heap := h1, toks := s1.toks + ([] : List (Str × Value)).length } := J.wish _
    refine PySem.W.kla_codeExpr (wpAny_mono ((hbody _ _ s1 H1 _ (hr.deeper _) hgd).run [] _ _ H1 Q J2 htb) (fun v s' hq => ?_) fun e s' hq => hq)
    obtain ⟨w', H', J', rv, q⟩ := hq
    exact ⟨w', H', J'.os, J'.bare, J'.base, J'.hok, rv, q⟩
  refine wpAny_call (codeAny_mono rc fun r s' hq => ?_)
  cases r with
  | error e => exact passAt tk σZ pinsZ H1 s1 e s' I1 hq
  | ok fl =>
    cases fl with
    | ret u => exact I1.after hq
    | next => exact False.elim hq
    | brk => exact False.elim hq
    | cont => exact False.elim hq
end Dk
set_option exponentiation.threshold 256
namespace Dk
open PySem PySem.Spec PyProof.Rows L2
variable [tabP : TabP]
variable {K : PySem.W.Frag}
theorem call_reprU {X : Cx} (un : X.A.units + 200 < cLine) (hg : X.A.guards = some []) : CallR X (.builtin "repr") (rRepr X.K) := by
  intro pins s σ H xs us Q I r h
  obtain ⟨x, p, rfl, dp, nd, sh, sz, dep, q⟩ := h
  obtain ⟨u, rfl, ru⟩ := vals1 r
  cases dp with
  | non => cases ru; exact PySem.P.repr_of_none ⟨.str _, H, I.tok _, ⟨_, rfl⟩, by rw [PyData.shown] at q; exact q⟩
  | bl b => cases ru; exact PySem.P.repr_of_bool ⟨.str _, H, I.tok _, ⟨_, rfl⟩, by rw [PyData.shown] at q; exact q⟩
  | int i =>
    obtain ⟨t, rfl⟩ := ru
    rw [PyData.showable] at sh
    exact PySem.P.repr_of_int (of_decide_eq_true sh) ⟨.str _, H, I.tok _, ⟨_, rfl⟩, by rw [PyData.shown] at q; exact q⟩
  | str z =>
    obtain ⟨t, rfl⟩ := ru
    rw [PyData.shown] at q sz
    exact PySem.P.repr_of_str ⟨.str _, H, I.tok _, ⟨_, rfl⟩, q⟩ sz
  | lst hs ds =>
    obtain ⟨as, rd⟩ := Dp.reads I _ _ _ (Dp.lst hs ds) ru
    cases ru
    exact repr_of_reads' rd sh (fun h => absurd (nd.symm.trans h) Bool.false_ne_true) hg (by omega) (fun _ _ h => h)
      (fun h' u tk kp => ⟨.str _, H, I.kept kp, ⟨_, rfl⟩, q⟩) sz
  | tup hs ds =>
    obtain ⟨as, rd⟩ := Dp.reads I _ _ _ (Dp.tup hs ds) ru
    cases ru
    exact repr_of_reads' rd sh (fun h => absurd (nd.symm.trans h) Bool.false_ne_true) hg (by omega) (fun _ _ h => h)
      (fun h' u tk kp => ⟨.str _, H, I.kept kp, ⟨_, rfl⟩, q⟩) sz
abbrev Fls := List (Str × D)
/-- the class at C lets its instances' fields be read -/
def FlsOk (K : PySem.W.Frag) (C : Addr) (fs : Fls) : Prop := ∀ p ∈ fs, XfC K C ∧ PySem.W.findIn K (.ref C) p.1 = some none
def FdOk (K : PySem.W.Frag) (F : Hp) (d : Option Addr) (fs : Fls) : Prop := fs = [] ∨ ∃ dd vs, d = some dd ∧ F dd = some (.xd vs) ∧ RpF K F vs fs
/-- E in a clause whose name stands in the slot oi answers m of the fields -/
def EvX (X : Cx) (oi : Option Nat) (E : Expr) (m : Fls → Option D) : Prop := ∃ tE : Addr → Value → Option Addr → TE, (∀ (a : Addr) (oe : Obj) (cls : Value) (d : Option Addr) (pn : List (Addr × Obj)), Zc cls d oe → (∃ vs, oe.data = .fields vs) → PE (X.suite a ((a, oe) :: pn)) E (tE a cls d)) ∧
  ∀ (a C : Addr) (d : Option Addr) (fs : Fls) (F H : Hp) (σ : L2.St) (r : D) (Q : VK), Same F H → (∀ i, oi = some i → σ[i]? = some (some (.ref a))) → FlsOk X.K C fs → FdOk X.K F d fs → m fs = some r → (∀ F' H' x, Ext F H F' H' → Rp X.K F' x r → Q x H') → tE a (.ref C) d σ H Q
theorem look_mem {α β : Type} [BEq α] [LawfulBEq α] {f : α} {r : β} : ∀ {fs : List (α × β)}, fs.lookup f = some r → (f, r) ∈ fs
  | [], h => by cases h
  | (k, d) :: fs, h => by
    rw [List.lookup_cons] at h
    cases q : f == k with
    | true => rw [q] at h; cases h; rw [eq_of_beq q]; exact List.mem_cons_self
    | false => rw [q] at h; exact List.mem_cons_of_mem _ (look_mem h)
section
variable {X : Cx} {oi : Option Nat} {E E2 : Expr} {m m2 : Fls → Option D} {p p2 pos : Pos}
theorem evx_str {t : Str} {j : Nat} : EvX X oi (.Constant (.str t) j pos) fun _ => some (.str t) := ⟨fun _ _ _ => tC (.str t), fun _ _ _ _ _ _ _ => pe_str, fun a C d fs F H σ r Q s _ _ _ hm q => by cases hm; exact q F H _ (Ext.refl s) (.str t)⟩
theorem evx_fld {n f : Str} (i : Nat) (hN : X.N[i]? = some n := by rfl) (hv : Vis X.env.scope n := by first | exact Or.inl rfl | exact Or.inr (Or.inl rfl) | exact Or.inr (Or.inr rfl)) (hd : (n == ("__debug__" : Str)) = false := by decide) (hcd : (n == ("__classdict__" : Str)) = false := by decide)
    (hb : attributeBase (.Name n p) f X.env (eval (.Name n p) X.env) = eval (.Name n p) X.env := by rfl) : EvX X (some i) (.Attribute (.Name n p) f pos) fun fs => fs.lookup f :=
  ⟨fun a cls d => fun σ H Q => ∃ C, XfC X.K C ∧ PySem.W.findIn X.K (.ref C) f = some none ∧ tXf a cls d C f (tVar i) σ H Q, fun a oe cls d pn hz hf => ⟨fun pins s σ H Q I ⟨C, T, hno, h⟩ =>
    (pe_xf (pos := pos) T hno hz hf (pe_var (X := X.suite a ((a, oe) :: pn)) (pos := p) (i := i) hN hv hd hcd) hb).run pins s σ H Q I h⟩, fun a C d fs F H σ r Q s hi hc hf hm q => by
    have mem := look_mem hm
    obtain ⟨T, hno⟩ := hc _ mem
    rcases hf with rfl | ⟨dd, vs, hd, hF, rp⟩
    · cases hm
    · obtain ⟨v, hv, rv⟩ := rp.look hm
      exact ⟨C, T, hno, .ref a, hi i rfl, rfl, rfl, dd, vs, v, hd, s _ _ hF, hv, q F H v (Ext.refl s) rv⟩⟩
theorem evx_repr (h : EvX X oi E m) (un : X.A.units + 200 < cLine) (hgd : X.A.guards = some []) (hm : X.mg "repr" = none) (hg : Gl X "repr" := by rfl) (he : starEach [E] X.env = (false, eval E X.env) :: starEach [] X.env := by rfl) (hpl : (backTo pos (starEach ([] : List Expr) X.env)).any (·.1) = false := by rfl) :
    EvX X oi (.Call (.Name "repr" p) [E] [] pos) fun fs => (m fs).bind fun d => reprD [d] := by
  obtain ⟨tE, h1, h2⟩ := h
  refine ⟨fun a cls d => tCB (rRepr X.K) (tCons (tE a cls d) tNil), fun a oe cls d pn hz hf => pe_callB (X := X.suite a ((a, oe) :: pn)) (call_reprU un hgd) hg hm (by decide +kernel) (pa_cons (h1 a oe cls d pn hz hf) pa_nil he) (by decide) (by decide) he hpl, fun a C d fs F H σ r Q s hi hc hf hm q => ?_⟩
  obtain ⟨c, k1, k2⟩ := Option.bind_eq_some_iff.mp hm
  refine h2 a C d fs F H σ c _ s hi hc hf k1 fun F' H' x ex rx => ?_
  exact opA_repr ex.fh (.cons (.inl rx) .nil) k2 fun F2 H2 v ex2 rv => q F2 H2 v (ex.trans ex2) rv
theorem evx_add (h : EvX X oi E m) (h' : EvX X oi E2 m2) : EvX X oi (.BinOp E .Add E2 pos) fun fs => (m fs).bind fun x => (m2 fs).bind fun y => addD x y := by
  obtain ⟨tE, h1, h2⟩ := h
  obtain ⟨tE', h1', h2'⟩ := h'
  refine ⟨fun a cls d => tOp _ (tE a cls d) (tE' a cls d), fun a oe cls d pn hz hf => pe_op (X := X.suite a ((a, oe) :: pn)) opr_add (h1 a oe cls d pn hz hf) (h1' a oe cls d pn hz hf), fun a C d fs F H σ r Q s hi hc hf hm q => ?_⟩
  obtain ⟨c, k1, hm⟩ := Option.bind_eq_some_iff.mp hm
  obtain ⟨c', k2, hm⟩ := Option.bind_eq_some_iff.mp hm
  refine h2 a C d fs F H σ c _ s hi hc hf k1 fun F' H' x ex rx => ?_
  have hf' : FdOk X.K F' d fs := hf.imp id fun ⟨dd, vs, e, b, rp⟩ => ⟨dd, vs, e, ex.f.at b, rp.mono ex.f⟩
  refine h2' a C d fs F' H' σ c' _ ex.fh hi hc hf' k2 fun F2 H2 y ex2 ry => ?_
  exact op2_add ex2.fh (.inl (rx.mono ex2.f)) (.inl ry) hm fun F3 H3 v ex3 rv => q F3 H3 v ((ex.trans ex2).trans ex3) rv
end
end Dk
set_option exponentiation.threshold 256
namespace Dk
open PySem PySem.Spec PyProof.Rows L2
variable [tabP : TabP]
variable {K : PySem.W.Frag}
structure Clause where
  h : Str
  oi : Option Nat
  ans : Fls → Option D
def answers (sub : Str → Str → Bool) : List Clause → Exc → Option D
  | [], _ => none
  | c :: r, x => if sub x.n c.h = true then c.ans x.fs else answers sub r x
/-- what the written part says of the errors' classes: rs what may be raised, hs what clauses name, sub which is which, flds the fields -/
structure XFacts (K : PySem.W.Frag) (mg : Str → Option Value) (rs hs : List Str) (sub : Str → Str → Bool) (flds : List (Str × Str)) : Prop where
  ex : ∀ r ∈ rs, ∀ h ∈ hs, ∀ C C', PySem.W.nsIn K mainGlobals r = some (some (.ref C)) → mg h = some (.ref C') → PySem.W.exmOne K (.ref C) (.ref C') = some (sub r h)
  hm : ∀ h ∈ hs, ∃ C', mg h = some (.ref C')
  fl : ∀ z ∈ flds, ∀ C, PySem.W.nsIn K mainGlobals z.1 = some (some (.ref C)) → XfC K C ∧ PySem.W.findIn K (.ref C) z.2 = some none
inductive ClsOk (X : Cx) : List ExceptHandler → List Clause → Prop
  | nil : ClsOk X [] []
  | plain {h : Str} {E : Expr} {ans : Fls → Option D} {np rp pos' : Pos} {hds : List ExceptHandler} {cl : List Clause} (hg : Gl X h) (hd : (h == ("__debug__" : Str)) = false) (he : EvX X none E ans) (r : ClsOk X hds cl) : ClsOk X (.ExceptHandler (some (.Name h np)) none [.Return (some E) rp] pos' :: hds) (⟨h, none, ans⟩ :: cl)
  | named {h n : Str} {i : Nat} {E : Expr} {ans : Fls → Option D} {np rp pos' : Pos} {hds : List ExceptHandler} {cl : List Clause} (hg : Gl X h) (hd : (h == ("__debug__" : Str)) = false) (hi : X.N[i]? = some n) (hln : X.env.kindOf n = some .local) (he : EvX X (some i) E ans) (r : ClsOk X hds cl) :
      ClsOk X (.ExceptHandler (some (.Name h np)) (some n) [.Return (some E) rp] pos' :: hds) (⟨h, some i, ans⟩ :: cl)
theorem clsOk_hds {X : Cx} {rs hs : List Str} {sub : Str → Str → Bool} {flds : List (Str × Str)} (XF : XFacts X.K X.mg rs hs sub flds) : ∀ {hds : List ExceptHandler} {cl : List Clause}, ClsOk X hds cl → (∀ c ∈ cl, c.h ∈ hs) →
    ∃ l, HdsN X hds l ∧ ∀ (Wout : WX) (D : Ends) (x : Exc) (C : Addr) (d : Option Addr) (F H : Hp) (σ : L2.St) (r : Dk.D), x.n ∈ rs → PySem.W.nsIn X.K mainGlobals x.n = some (some (.ref C)) → FlsOk X.K C x.fs → FdOk X.K F d x.fs → Same F H → σ.length = X.N.length → answers sub cl x = some r →
      (∀ F' H' y, Ext F H F' H' → Rp X.K F' y r → D.rt y H') → wManyN X.K Wout D l (.ref C) d σ H
  | _, _, .nil, _ => ⟨[], .nil, fun Wout D x C d F H σ r _ _ _ _ _ _ hm _ => by cases hm⟩
  | _, _, .plain (h := h) (E := E) (ans := ans) hg hd he r, hh => by
    obtain ⟨l, h1, h2⟩ := clsOk_hds XF r fun c hc => hh c (List.mem_cons_of_mem _ hc)
    obtain ⟨tE, k1, k2⟩ := he
    have hin := hh _ List.mem_cons_self
    obtain ⟨C', hC'⟩ := XF.hm h hin
    refine ⟨_, .plain (ts := fun a cls d => tRet (tE a cls d)) ⟨hg, hd, .inl hC'⟩ (fun a oe cls d pn hz hf => pss_one (ps_ret (k1 a oe cls d pn hz hf))) h1, fun Wout D x C d F H σ y hx hC hfl hfd s hl hm q => ⟨_, XF.ex _ hx _ hin _ _ hC hC', fun e a _ => ?_, fun e => ?_⟩⟩
    · unfold answers at hm
      rw [if_pos e] at hm
      exact k2 a C d x.fs F H σ y _ s (fun i z => by cases z) hfl hfd hm q
    · unfold answers at hm
      rw [if_neg (by rw [e]; exact Bool.false_ne_true)] at hm
      exact h2 Wout D x C d F H σ y hx hC hfl hfd s hl hm q
  | _, _, .named (h := h) (i := i) (E := E) (ans := ans) hg hd hi hln he r, hh => by
    obtain ⟨l, h1, h2⟩ := clsOk_hds XF r fun c hc => hh c (List.mem_cons_of_mem _ hc)
    obtain ⟨tE, k1, k2⟩ := he
    have hin := hh _ List.mem_cons_self
    obtain ⟨C', hC'⟩ := XF.hm h hin
    refine ⟨_, .named (ts := fun a cls d => tRet (tE a cls d)) ⟨hg, hd, .inl hC'⟩ hi hln (fun a oe cls d pn hz hf => pss_one (ps_ret (k1 a oe cls d pn hz hf))) h1, fun Wout D x C d F H σ y hx hC hfl hfd s hl hm q => ⟨_, XF.ex _ hx _ hin _ _ hC hC', fun e a _ => ?_, fun e => ?_⟩⟩
    · unfold answers at hm
      rw [if_pos e] at hm
      refine k2 a C d x.fs F H _ y _ s (fun j z => ?_) hfl hfd hm q
      cases z
      exact List.getElem?_set_self (by rw [hl]; exact (List.getElem?_eq_some_iff.mp hi).1)
    · unfold answers at hm
      rw [if_neg (by rw [e]; exact Bool.false_ne_true)] at hm
      exact h2 Wout D x C d F H σ y hx hC hfl hfd s hl hm q
/-- the def that tries what it got -/
def HasTry (P : Program) (w : World) (K : PySem.W.Frag) (mg : Str → Option Value) (base : Heap) (x : Str) (k : Nat) (cl : List Clause) (good : Str) : Prop :=
  ∃ g fd st a Ng hds p1 p2 p3 p4 p5 p6 j, Fun K x x st g fd ∧ mg x = some (.ref g) ∧ PySem.W.keepIn K (.ref g) = true ∧ Binds K fd [a] [] ∧ FnScope Ng [a] (defScope st) ∧ Ng[0]? = some a ∧ Ng.Nodup ∧ Vis (defScope st) a ∧ (a == ("__debug__" : Str)) = false ∧ (a == ("__classdict__" : Str)) = false ∧
    defBody st = [.Try [.Expr (.Call (.Name a p1) [] [] p2) p3] hds [] [] p4, .Return (some (.Constant (.str good) j p5)) p6] ∧ hds ≠ [] ∧
    ∀ (cdv : Value) (A : Around) (outer : List PySem.Env) (s : Shared) (H : Hp), Room k (A.deeper (envOfC x (defScope st) s.heap.objs.size g cdv)) → (A.deeper (envOfC x (defScope st) s.heap.objs.size g cdv)).guards = some [] →
      ClsOk (defCx P w K mg base Ng x (defScope st) g cdv A outer s H) hds cl ∧ ∀ pn xe, swapsWith (.Call (.Name a p1) [] [] p2) none p3.line ((defCx P w K mg base Ng x (defScope st) g cdv A outer s H).tr pn xe).env = pure false
def tryMe (rs : List Str) (sub : Str → Str → Bool) (flds : List (Str × Str)) (cl : List Clause) (good : Str) (js : List Nat) (m : ME) (mx : MX) : ME := fun e => (tks e (js.map L.s)).bind fun c => match m (c.1.map .fz) with
  | some _ => some (.v (.str good), c.2)
  | none => (mx (c.1.map .fz)).bind fun p => (okB (decide (p.1.n ∈ rs) && p.1.fs.all fun z => decide ((p.1.n, z.1) ∈ flds))).bind fun _ => (answers sub cl p.1).map fun d => (.v d, c.2)
/-- the world behind the lambda's run -/
theorem lam_ext {F H F' H' : Hp} {σ : L2.St} {e : Env} {os : List (Option Addr)} (W : WOk K F (gdOf F H []) [] F' H' σ e os) (s : Sm F F') : Ext F H F' H' :=
  ⟨s, fun a o q n ne => (W.gd a o (by rw [gdOf_of n (fun i z => by simp at z) fun ps z => ne ps (Option.some.inj (q.symm.trans z))]; exact q)).1, W.fh, fun a o q n ne => (W.gd a o (by rw [gdOf_of n (fun i z => by simp at z) fun ps z => ne ps (Option.some.inj (q.symm.trans z))]; exact q)).2.1, fun _ => W.tp⟩
section
variable {X : Cx}
theorem d_met {x z : Str} {k : Nat} {cl : List Clause} {good : Str} {rs hs : List Str} {sub : Str → Str → Bool} {flds : List (Str × Str)} {ar : Arguments} {bd : Expr} {sc : Scope} {js : List Nat} {p lp pos : Pos} {cd : Addr} {m : ME} {mx : MX}
    (M : HasTry X.prog X.w X.K X.mg X.base x (k + 1) cl good) (XF : XFacts X.K X.mg rs hs sub flds) (hcl : ∀ c ∈ cl, c.h ∈ hs) (T : TabOf X.base X.mg z cd) (hcd : X.env.code = .ref cd) (hq : X.env.qual = z ++ ".<locals>.") (L : lamYB X.env.scope sc [] = true) (hc : capB X.N sc js = true) (hd : defaultsOf ar X.env = ([], []))
    (hbind : ∀ (q : Str) (cl : List (Str × Addr)) (pm cv ct : Value), bindArgs (PySem.W.kla_fn "<lambda>" q ar bd sc cl pm cv ct) ⟨[], []⟩ = pure []) (hr : Room (k + 2) X.A) (hgd : X.A.guards = some [])
    (hN : ∀ (A : Around) (outer : List PySem.Env) (s : Shared) (H : Hp) (f c : Addr) (E : XK) (n : Nat), Room k (A.deeper (LamX.lamEnv X sc n f c)) → (A.deeper (LamX.lamEnv X sc n f c)).guards = some [] → n = s.heap.objs.size → PE (lamCz X A outer s H E sc f c js) bd (rE X.K m))
    (hX : ∀ (A : Around) (outer : List PySem.Env) (s : Shared) (H : Hp) (f c : Addr) (E : XK) (n : Nat), Room k (A.deeper (LamX.lamEnv X sc n f c)) → (A.deeper (LamX.lamEnv X sc n f c)).guards = some [] → n = s.heap.objs.size → Takes (lamCz X A outer s H E sc f c js) (wZ E) → PE (lamCz X A outer s H E sc f c js) bd (zE X.K (wZ E) mx))
    (hg : Gl X x := by rfl) (hdb : (x == ("__debug__" : Str)) = false := by decide) : PE X (.Call (.Name x p) [.Lambda ar bd sc lp] [] pos) (rE X.K (tryMe rs sub flds cl good js m mx)) := ⟨fun pins s σ H Q I ⟨F0, Gd, ios, F, e, os, l, e', W, hmm, q⟩ => by
  obtain ⟨P, B, hmT, hu⟩ := T
  rw [← hq] at hmT hu
  have L := lamY_by L
  obtain ⟨g, fd, st, a, Ng, hds, p1, p2, p3, p4, p5, p6, j, Fu, hmg, kp, hb, Sg, hN0, hNd, hva, ha1, ha2, hbody, hne, hcls⟩ := M
  unfold tryMe at hmm
  obtain ⟨⟨ds, e1⟩, h1, hmm⟩ := Option.bind_eq_some_iff.mp hmm
  refine wpAny_Call_Name_kw (ld_glob I hg hmg ?_ hdb)
  refine PySem.W.callWith_K (h₀ := X.base) I.ok.mod.kin kp ?_ (by rfl) (by rfl)
  show wpAny _ _ (spliced ((false, eval (.Lambda ar bd sc lp) X.env) :: backTo pos (starEach [] X.env))) _ _ s
  obtain ⟨caps, F1, os1, W1, s1, r1, ec⟩ := W.takeS h1
  have hfr : ∀ z ∈ sc.names, z.2 = .free → ∃ c, X.env.cells.lookup z.1 = some c := fun z hz ez => by
    rcases L.free z hz ez with k | k
    · exact I.ok.has _ (.inl k)
    · exact I.ok.has _ (.inr k)
  refine Calls.spliced_cons (lam_laid I B hcd hmT hu W.tp.tb hd hfr fun f c pm ct H1 t1 I1 mk T1 hf hfn hff hyo => ?_)
  obtain ⟨hc1, hc2, hc3⟩ := made_code W1.fh W1.tp mk
  have W2 := W1.ext (ext_made W1.fh W1.tp mk T1)
  refine Calls.spliced_nil ⟨I1.kIn, ?_⟩
  -- what is wanted of the whole
  obtain ⟨d, hout, el, hmet⟩ : ∃ d, (∀ F' H' y, Ext F1 H1 F' H' → Rp X.K F' y d → Q y H') ∧ l = .v d ∧ ((d = .str good ∧ ∃ r, m (ds.map .fz) = some r) ∨ ∃ p, mx (ds.map .fz) = some p ∧ (decide (p.1.n ∈ rs) && p.1.fs.all fun z => decide ((p.1.n, z.1) ∈ flds)) = true ∧ answers sub cl p.1 = some d) := by
    have fin : ∀ d, l = .v d → e' = e1 → ∀ F' H' y, Ext F1 H1 F' H' → Rp X.K F' y d → Q y H' := fun d e2 e3 F' H' y ex rp => by
      subst e2; subst e3
      exact q F' H' os1 y (W2.ext ex) (s1.trans ex.f) rp
    cases hm1 : m (ds.map .fz) with
    | some r =>
      rw [hm1] at hmm
      cases hmm
      exact ⟨_, fin _ rfl rfl, rfl, .inl ⟨rfl, r, rfl⟩⟩
    | none =>
      rw [hm1] at hmm
      obtain ⟨p, h2, hmm⟩ := Option.bind_eq_some_iff.mp hmm
      obtain ⟨_, h3, hmm⟩ := Option.bind_eq_some_iff.mp hmm
      obtain ⟨d, h4, hmm⟩ := Option.map_eq_some_iff.mp hmm
      cases hmm
      exact ⟨_, fin _ rfl rfl, rfl, .inr ⟨p, h2, okB_iff h3, h4⟩⟩
  have wl := lam_wok (J := tabP) W2.fh W2.tp r1
  have est : lamSt σ js [] = caps.map some := by unfold lamSt; rw [ec]; simp
  obtain ⟨oc, od, kV, doc, pm2, an, cdv, ct2, osl, efd, lk, hcdv⟩ := Fu.ex
  subst efd
  have rc : codeAny (model X.prog X.w) X.A (.call (.ref g) ⟨[.ref f], []⟩) (CR CX0 X.stack X.prog X.w H1 t1 Q E0) t1 := by
    refine LamX.run_ofS (N := Ng) (ps := [a]) (us := [.ref f]) (vs := [.ref f]) (k := k + 1) lk hcdv Sg hr I1.env0 (hb t1 [.ref f] I1.kIn rfl) (.cons rfl .nil) rfl fun hr' => ?_
    obtain ⟨hok, hsw⟩ := hcls cdv X.A X.stack t1 H1 hr' hgd
    obtain ⟨lc, hH, hans⟩ := clsOk_hds (X := defCx X.prog X.w X.K X.mg X.base Ng x (defScope st) g cdv X.A X.stack t1 H1) XF hok hcl
    rw [hbody]
    cases hds with
    | nil => exact absurd rfl hne
    | cons hd0 hdr =>
    refine ⟨_, (pss_cons (ps_try_n (X := defCx X.prog X.w X.K X.mg X.base Ng x (defScope st) g cdv X.A X.stack t1 H1) (Wout := fun _ _ _ _ => False)
      (tb := fun W D σZ HZ => σZ[0]? = some (some (.ref f)) ∧ HZ c = some (LamX.CodeO c (X.env.qual ++ "<lambda>")) ∧ (rE X.K m (lamSt σ js []) HZ (fun _ H' => D.nx σZ H') ∨ zE X.K (wZ fun cls d H' => W cls d σZ H') mx (lamSt σ js []) HZ fun _ H' => D.nx σZ H'))
      rfl rfl hNd takes_none5 (fun W pn xe tk po => ?_) hH) (pss_one (ps_ret pe_str))).nox, ?_⟩
    · exact pss_one (ps_expr (pe_act0 (i := 0) (k := k) (tb := fun E => fun σ' HZ Q => rE X.K m σ' HZ Q ∨ zE X.K (wZ E) mx σ' HZ Q) I1 L (capOk_by hc) hf hfn hff (hbind _ _ _ _ _) tk hr' hgd (fun A outer s H E hra hga => ⟨fun pins s2 σ2 H2 Q2 I2 h => by
        rcases h with h | h
        · exact (hN A outer s H f c E _ hra hga rfl).run pins s2 σ2 H2 Q2 I2 h
        · exact (hX A outer s H f c E _ hra hga rfl (takes_of rfl rfl rfl rfl)).run pins s2 σ2 H2 Q2 I2 h⟩) hN0 hva ha1 ha2) (hsw pn xe))
    · have hlen : (L2.start Ng [V.ref f]).length = Ng.length := by
        have z : 1 ≤ Ng.length := (List.getElem?_eq_some_iff.mp hN0).1
        unfold L2.start
        rw [List.length_append, List.length_map, List.length_replicate]
        show 1 + (Ng.length - 1) = _
        omega
      refine ⟨rfl, hc1, ?_⟩
      rw [est]
      rcases hmet with ⟨ed, r, hm1⟩ | ⟨⟨xx, e2⟩, h2, h3, h4⟩
      · left
        obtain ⟨l2, e2⟩ := r
        exact ⟨F1, _, _, F1, _, _, l2, e2, wl, hm1, fun F' H' os' y W' s' _ => hout F' H' _ (lam_ext W' s') (by rw [ed]; exact .str good)⟩
      · right
        refine ⟨F1, _, _, F1, _, _, xx, e2, wl, h2, fun F' H' σ' os' cls d2 W' s' ok => ?_⟩
        obtain ⟨⟨C, hC, rfl⟩, hfd⟩ := ok
        have h3 := Bool.and_eq_true_iff.mp h3
        refine hans _ _ xx C d2 F' H' _ d (of_decide_eq_true h3.1) hC (fun z hz => XF.fl _ (of_decide_eq_true (List.all_eq_true.mp h3.2 z hz)) C hC) hfd W'.fh hlen h4 fun F2 H2 y ex ry => hout F2 H2 y ((lam_ext W' s').trans ex) ry
  refine wpAny_call (codeAny_mono rc fun r s' hq => ?_)
  cases r with
  | error _ => exact False.elim hq
  | ok fl => cases fl with
    | ret u => exact I1.after hq
    | next => exact False.elim hq
    | brk => exact False.elim hq
    | cont => exact False.elim hq⟩
end
end Dk
set_option exponentiation.threshold 256
namespace Dk
open PySem PySem.Spec PyProof.Rows L2
end Dk
set_option exponentiation.threshold 256
namespace Dk
open PySem PySem.Spec PyProof.Rows L2
end Dk
set_option exponentiation.threshold 256
namespace Dk
open PySem PySem.Spec PyProof.Rows L2
end Dk
set_option exponentiation.threshold 256
namespace Dk
open PySem PySem.Spec PyProof.Rows L2
variable [tabP : TabP]
variable {K : PySem.W.Frag}
omit tabP in
theorem room_u {k : Nat} {A : Around} (r : Room k A) : A.units + 200 < cLine := by have := r.un; omega
section
variable {P : Program} {w : World} {mg : Str → Option Value} {base : Heap}
theorem FnZ.mono {j k : Nat} {f : Addr} {fd : FuncData} {ps : List Str} {m : MX} (F : FnZ P w K mg base j f fd ps m) (h : j ≤ k) : FnZ P w K mg base k f fd ps m :=
  ⟨F.len, fun A outer s H args us vs E hr => F.run A outer s H args us vs E (hr.mono h)⟩
/-- a def whose code object is at cd -/
structure FunC (K : PySem.W.Frag) (x : Str) (st : Stmt) (cd f : Addr) (fd : FuncData) : Prop where
  ex : ∃ (oc : Value) (od : Option Addr) (kV doc pm : Value) (an : Option Addr) (ct : Value) (osl : Array (Option Value)), fd = PySem.W.fnOf x x (defArgs st) (defBody st) (defScope st) .none kV doc pm an (.ref cd) ct ∧ K.lookup f = some ⟨oc, od, .func fd, osl⟩ ∧ PySem.W.codeIn K (.ref cd) x = true
theorem fnDC {x : Str} {st : Stmt} {cd f : Addr} {fd : FuncData} {N ps : List Str} {k a n : Nat} {m : MS} (Fu : FunC K x st cd f fd) (S : FnScope N ps (defScope st)) (ha : ps.length = a) (hn : N.length - ps.length = n)
    (hb : ∀ (A : Around) (outer : List PySem.Env) (s : Shared) (H : Hp), Room k (A.deeper (envOfC x (defScope st) s.heap.objs.size f (.ref cd))) → (A.deeper (envOfC x (defScope st) s.heap.objs.size f (.ref cd))).guards = some [] →
      PSs (cxOf CX0 P w K mg base N x (defScope st) f (.ref cd) A outer s H E0).nox (defBody st) (rS K m)) : FnD P w K mg base (k + 1) f fd ps (fnM a n m) := by
  obtain ⟨oc, od, kV, doc, pm, an, ct, osl, rfl, lk, hcd⟩ := Fu.ex
  refine ⟨fun vs H Q h => (fnM_len h).trans ha.symm, fun A outer s H args us vs Q hr hg e0 bt rv hs => ?_⟩
  have hl : vs.length = ps.length := (fnM_len hs).trans ha.symm
  have inK : K.In s.heap := e0.mod.kin.keeps fun b o h => (e0.bs b o h).1
  have noL : s.heap.NoLimit := e0.mod.nolimit.keeps fun b o h => (e0.bs b o h).1
  have kinds : ∀ y ∈ ps.zip us, (defScope st).names.lookup y.1 = some .local ∨
      ((defScope st).names.lookup y.1 = some .cell ∧ ((cellsFrom (s.heap.objs.size + 1) (defScope st).names []).lookup y.1).isSome = true) := by
    rintro ⟨z, v⟩ hz
    rcases S.par z (List.of_mem_zip hz).1 with h | h
    · exact Or.inl h
    · exact Or.inr ⟨h, PySem.W.cellsFrom_some _ _ _ (Or.inl h)⟩
  refine codeAny_call_function hr.depth (inK _ _ lk) rfl S.co S.gen rfl (PySem.W.codeRec_of inK hcd) (bt _ _ _ _ ?_)
  refine wpAny_newFunctionEnv_cells S.kind kinds fun env henv s1 ic => ?_
  subst henv
  refine ⟨noL.keeps ic.toInCall.keep, codeAny_func ?_⟩
  have body := (hb A outer s H (hr.deeper _) hg).nox
  have read := fn_sim (t := rS K m) (N := N) sim_rS (by rw [hl]; exact hn) hs (B := TbK H) tbK_ob
  have I0 := inv_start (CX := CX0) (P := P) (w := w) (mg := mg) (base := base) (E := E0) S hr.hd e0 hl rv ic
  refine wpAny_mono (body.run [] s1 _ H _ I0 read) (fun fl s' hq => ?_) fun x s' hq => hq
  cases fl with
  | brk => obtain ⟨_, _, _, no⟩ := hq; exact no.elim
  | cont => obtain ⟨_, _, _, no⟩ := hq; exact no.elim
  | next =>
    obtain ⟨σ', H', J, hQ⟩ := hq
    exact ⟨V.non, H', J.os, J.bare, J.base, J.hok, rfl, hQ⟩
  | ret u =>
    obtain ⟨v, σ', H', J, rl, hQ⟩ := hq
    exact ⟨v, H', J.os, J.bare, J.base, J.hok, rl, hQ J.base.tbls⟩
theorem hasTry {x : Str} {st : Stmt} {Ng : List Str} {a : Str} {k : Nat} {cl : List Clause} {good : Str} {hds : List ExceptHandler} {p1 p2 p3 p4 p5 p6 : Pos} {j : Nat} (At : DefAt K mg x st) (S : FnScope Ng [a] (defScope st))
    (hbd : ∀ (kV doc pm : Value) (an : Option Addr) (cdv ct : Value) (us : List Value), us.length = 1 → bindArgs (PySem.W.fnOf x x (defArgs st) (defBody st) (defScope st) .none kV doc pm an cdv ct) ⟨us, []⟩ = pure ([a].zip us))
    (hbody : defBody st = [.Try [.Expr (.Call (.Name a p1) [] [] p2) p3] hds [] [] p4, .Return (some (.Constant (.str good) j p5)) p6]) (hne : hds ≠ [])
    (hc : ∀ (g : Addr) (cdv : Value) (A : Around) (outer : List PySem.Env) (s : Shared) (H : Hp), Room k (A.deeper (envOfC x (defScope st) s.heap.objs.size g cdv)) → (A.deeper (envOfC x (defScope st) s.heap.objs.size g cdv)).guards = some [] →
      ClsOk (defCx P w K mg base Ng x (defScope st) g cdv A outer s H) hds cl ∧ ∀ pn xe, swapsWith (.Call (.Name a p1) [] [] p2) none p3.line ((defCx P w K mg base Ng x (defScope st) g cdv A outer s H).tr pn xe).env = pure false)
    (hN0 : Ng[0]? = some a := by rfl) (hNd : Ng.Nodup := by decide) (hv : Vis (defScope st) a := by first | exact Or.inl rfl | exact Or.inr (Or.inl rfl) | exact Or.inr (Or.inr rfl)) (ha1 : (a == ("__debug__" : Str)) = false := by decide) (ha2 : (a == ("__classdict__" : Str)) = false := by decide) : HasTry P w K mg base x k cl good := by
  obtain ⟨g, fd, Fu, hm⟩ := At
  exact ⟨g, fd, st, a, Ng, hds, p1, p2, p3, p4, p5, p6, j, Fu, hm, Fu.kp, Fu.binds hbd, S, hN0, hNd, hv, ha1, ha2, hbody, hne, hc g⟩
end
end Dk
set_option exponentiation.threshold 256
namespace Dk
open PySem PySem.Spec PyProof.Rows L2
variable [tabP : TabP]
variable {K : PySem.W.Frag}
theorem fnZk_of {P : Program} {w : World} {mg : Str → Option Value} {base : Heap} {x qual : Str} {st : Stmt} {dvs : List V} {kws : List (Str × V)} {f : Addr} {fd : FuncData} {N ps : List Str} {k a n : Nat} {m : MX} (Fu : FunD K x qual (defArgs st) (defBody st) (defScope st) dvs kws f fd) (S : FnScope N ps (defScope st)) (ha : ps.length = a) (hn : N.length - ps.length = n)
    (hb : BodyZ P w K mg base k N qual (defScope st) f (defBody st) m) : FnZ P w K mg base (k + 1) f fd ps (fnZ a n m) := by
  obtain ⟨oc, od, dV, kV, doc, pm, an, cdv, ct, osl, rfl, lk, hcd, _, _⟩ := Fu.ex
  refine ⟨fun vs H E h => (fnZ_len h).trans ha.symm, fun A outer s H args us vs E hr hg e0 bt rv hs => ?_⟩
  have hl : vs.length = ps.length := (fnZ_len hs).trans ha.symm
  have inK : K.In s.heap := e0.mod.kin.keeps fun b o h => (e0.bs b o h).1
  have noL : s.heap.NoLimit := e0.mod.nolimit.keeps fun b o h => (e0.bs b o h).1
  have kinds : ∀ y ∈ ps.zip us, (defScope st).names.lookup y.1 = some .local ∨
      ((defScope st).names.lookup y.1 = some .cell ∧ ((cellsFrom (s.heap.objs.size + 1) (defScope st).names []).lookup y.1).isSome = true) := by
    rintro ⟨z, v⟩ hz
    rcases S.par z (List.of_mem_zip hz).1 with h | h
    · exact Or.inl h
    · exact Or.inr ⟨h, PySem.W.cellsFrom_some _ _ _ (Or.inl h)⟩
  refine codeAny_call_function hr.depth (inK _ _ lk) rfl S.co S.gen rfl (PySem.W.codeRec_of inK hcd) (bt _ _ _ _ ?_)
  refine wpAny_newFunctionEnv_cells S.kind kinds fun env henv s1 ic => ?_
  subst henv
  refine ⟨noL.keeps ic.toInCall.keep, codeAny_func ?_⟩
  have body := hb cdv A outer s H E (hr.deeper _) hg (takes_of rfl rfl rfl rfl) (passes_of rfl)
  have read := fnZ_sim (N := N) (by rw [hl]; exact hn) hs
  have I0 := inv_start (CX := L2.CX P w) (P := P) (w := w) (mg := mg) (base := base) (E := E) S hr.hd e0 hl rv ic
  refine wpAny_mono (body.run [] s1 _ H { nx := fun _ _ => False, rt := fun _ _ => False } I0 read) (fun fl s' hq => ?_) fun x s' hq => hq
  cases fl with
  | brk => obtain ⟨_, _, _, no⟩ := hq; exact no.elim
  | cont => obtain ⟨_, _, _, no⟩ := hq; exact no.elim
  | next => obtain ⟨σ', H', J, no⟩ := hq; exact no.elim
  | ret u => obtain ⟨v, σ', H', J, rl, no⟩ := hq; exact no.elim
end Dk
set_option exponentiation.threshold 256
namespace Dk
open PySem PySem.W PySem.Spec PySem.Calls PyProof.Rows L2
theorem tabl_of {T : List (Addr × Str)} {fns : Nat → FnI} {cs : List (Addr × Addr)} {K : Frag} {h : Heap} (X : K.In h) (em : ∀ P ∈ cs.map (·.2), h.get? P = some (tabObj #[])) (nk : ∀ c ∈ cs, K.lookup c.2 = none) (hd : ∀ c ∈ cs, codeHdIn K c.1 c.2 = true) (of : T.map (·.1) = cs.map (·.2)) : @Tabl ⟨T, fns⟩ K h cs :=
  @Tabl.mk ⟨T, fns⟩ K h cs (fun c hc => em _ (List.mem_map.mpr ⟨c, hc, rfl⟩)) nk (fun c hc => codeHd_of_K X (hd c hc)) fun q hq => by rw [← of]; exact List.mem_map.mpr ⟨q, hq, rfl⟩
theorem nodup_fst {T : List (Addr × Str)} (nd : (T.map (·.1)).Nodup) {a : Addr} {x y : Str} (h1 : (a, x) ∈ T) (h2 : (a, y) ∈ T) : x = y := by
  induction T with
  | nil => cases h1
  | cons z r ih =>
    rw [List.map_cons, List.nodup_cons] at nd
    rcases List.mem_cons.mp h1 with e1 | e1
    · rcases List.mem_cons.mp h2 with e2 | e2
      · rw [← e1] at e2; cases e2; rfl
      · exact absurd (List.mem_map.mpr ⟨_, e2, by rw [← e1]⟩) nd.1
    · rcases List.mem_cons.mp h2 with e2 | e2
      · exact absurd (List.mem_map.mpr ⟨_, e1, by rw [← e2]⟩) nd.1
      · exact ih nd.2 e1 e2
theorem tabOf_of [TabP] {base : Heap} {mg : Str → Option Value} {x : Str} {cd P : Addr} (B : LamX.TabB base mg cd P) (nd : (TabP.T.map (·.1)).Nodup) (m : (P, x ++ ".<locals>." ++ "<lambda>") ∈ TabP.T) : TabOf base mg x cd :=
  ⟨P, B, m, fun p hp e => nodup_fst (a := P) nd (by rw [← e]; exact hp) m⟩
theorem xfacts_of {K : Frag} {h : Heap} {mg : Str → Option Value} {rs hs : List Str} {sub : Str → Str → Bool} {flds : List (Str × Str)} (X : K.In h) (G : h.Ns mainGlobals mg) (er eh : List (Str × Addr)) (fl : List (Str × Str × Addr))
    (hrs : er.map (·.1) = rs) (hhs : eh.map (·.1) = hs) (hfl : fl.map (fun z => (z.1, z.2.1)) = flds) (nr : ∀ z ∈ er, nsIn K mainGlobals z.1 = some (some (.ref z.2))) (nh : ∀ z ∈ eh, nsIn K mainGlobals z.1 = some (some (.ref z.2))) (nf : ∀ z ∈ fl, nsIn K mainGlobals z.1 = some (some (.ref z.2.2)))
    (hx : (er.all fun r => eh.all fun z => decide (exmOne K (.ref r.2) (.ref z.2) = some (sub r.1 z.1))) = true) (hf : ∀ z ∈ fl, L2.xfB K z.2.2 = true ∧ findIn K (.ref z.2.2) z.2.1 = some none) : XFacts K mg rs hs sub flds where
  ex := fun r hr h' hh C C' n1 n2 => by
    subst hrs
    subst hhs
    obtain ⟨z, hz, rfl⟩ := List.mem_map.mp hr
    obtain ⟨z', hz', rfl⟩ := List.mem_map.mp hh
    have e1 := nr z hz
    rw [n1] at e1
    cases e1
    have e2 := mg_of X G (nh z' hz')
    rw [n2] at e2
    cases e2
    exact of_decide_eq_true (List.all_eq_true.mp (List.all_eq_true.mp hx z hz) z' hz')
  hm := fun h' hh => by
    subst hhs
    obtain ⟨z', hz', rfl⟩ := List.mem_map.mp hh
    exact ⟨_, mg_of X G (nh z' hz')⟩
  fl := fun z hz C n => by
    subst hfl
    obtain ⟨y, hy, rfl⟩ := List.mem_map.mp hz
    have e := nf y hy
    rw [n] at e
    cases e
    exact ⟨L2.xfB_ok (hf y hy).1, (hf y hy).2⟩
theorem errC_of {K : Frag} {h : Heap} {mg : Str → Option Value} {x : Str} {C : Addr} {B newId initId : String} {bmB : List Value} (X : K.In h) (G : h.Ns mainGlobals mg) (n : nsIn K mainGlobals x = some (some (.ref C))) (k : keepIn K (.ref C) = true) (F : ExcBaseFacts B newId initId bmB) (q : excIn K C bmB newId = true)
    (s : subIn K (.ref C) (.type "BaseException") = some true) (t : typeIn K (.ref C) = some (.type "type")) : ErrC K mg x := ⟨⟨C, B, newId, initId, bmB, mg_of X G n, n, k, F, q, s, t⟩⟩
/-- what is seen of the text of an error class's __init__ alone -/
structure ErrT (f sf y : Str) (arg : Expr) (st : Stmt) : Prop where
  body : ∃ p0 p1 p2 p3 p4 p5 p6 p7 p8, defBody st = [.Expr (.Call (.Attribute (.Call (.Name "super" p0) [] [] p1) "__init__" p2) [arg] [] p3) p4, .Assign [.Attribute (.Name sf p5) f p6] (.Name y p7) p8] ∧
    ∀ (qual : Str) (L fI cda cc : Addr), (∃ pl : Sem Bool, eval (.Call (.Attribute (.Call (.Name "super" p0) [] [] p1) "__init__" p2) [arg] [] p3) (ksEnv qual (defScope st) L fI (.ref cda) cc) = (do
      let ov ← attributeBase (.Call (.Name "super" p0) [] [] p1) "__init__" (ksEnv qual (defScope st) L fI (.ref cda) cc) (eval (.Call (.Name "super" p0) [] [] p1) (ksEnv qual (defScope st) L fI (.ref cda) cc))
      standAt p2.atName
      let (f, first) ← holding [ov] (getMethod ov "__init__" pl)
      callWith p3 f first (backTo p3 (starEach [arg] (ksEnv qual (defScope st) L fI (.ref cda) cc))) [])) ∧ interactive (ksEnv qual (defScope st) L fI (.ref cda) cc) = false ∧
      starEach [arg] (ksEnv qual (defScope st) L fI (.ref cda) cc) = [(false, eval arg (ksEnv qual (defScope st) L fI (.ref cda) cc))] ∧
      swapsWith (.Name y p7) (some (.Attribute (.Name sf p5) f p6)) p8.line (ksEnv qual (defScope st) L fI (.ref cda) cc) = pure false
  args : defArgs st = { posonlyargs := [], args := (defArgs st).args, vararg := none, kwonlyargs := [], kw_defaults := [], kwarg := none, defaults := [] } ∧ (defArgs st).args.map (·.arg) = [sf, y]
  kind : (defScope st).kind = .function
  co : (defScope st).isCoroutine = false
  gen : (defScope st).isGenerator = false
  nocell : ∀ x ∈ (defScope st).names, x.2 ≠ .cell
  nS : (defScope st).names.lookup ("super" : Str) = some .globalImplicit
  nC : (defScope st).names.lookup ("__class__" : Str) = some .free
  n1 : (defScope st).names.lookup sf = some .local
  n2 : (defScope st).names.lookup y = some .local
  ne : sf ≠ y
  d1 : (sf == ("__debug__" : Str)) = false
  d2 : (y == ("__debug__" : Str)) = false
  bind : ∀ (qual : Str) (kV doc pm : Value) (an : Option Addr) (cdv ct : Value) (cc : Addr) (a b : Value), bindArgs (ksFn "__init__" qual (defArgs st) (defBody st) (defScope st) .none kV doc pm an cdv ct cc) ⟨[a, b], []⟩ = pure [(sf, a), (y, b)]
theorem errN_of {K : Frag} {h : Heap} {prog : Program} {mg : Str → Option Value} {x f sf y qual file : Str} {ok : D → Bool} {C fI cda cc : Addr} {B newId i : String} {bmB : List Value} {arg : Expr} {st : Stmt} {kV doc pm oc ct : Value} {an od : Option Addr} {osl : Array (Option Value)}
    {ccl : Value} {cdd : Option Addr} {vs : Array Value} {ccs : Array (Option Value)} {tf : Tok} {cl : Value} {cld : Option Addr} {csl : Array (Option Value)} {cdC : ClassData} (X : K.In h) (G : h.Ns mainGlobals mg) (T : ErrT f sf y arg st) (FB : ExcBaseFacts B newId i bmB) (KF : KxsFacts B i) (SF : StoreFacts B bmB "object.__setattr__" "object")
    (hA : ∀ (F : Hp) v d u, Rp K F v d → ok d = true → RelV v u → ArgEv arg y u) (n : nsIn K mainGlobals x = some (some (.ref C))) (nsu : nsIn K mainGlobals "super" = some none) (k : keepIn K (.ref C) = true) (s : subIn K (.ref C) (.type "BaseException") = some true) (ty : typeIn K (.ref C) = some (.type "type"))
    (q : excInitIn K C bmB newId = true) (hi : findIn K (.ref C) "__init__" = some (some (.ref fI))) (ti : typeIn K (.ref fI) = some (.type "function"))
    (l : K.lookup fI = some ⟨oc, od, .func (ksFn "__init__" qual (defArgs st) (defBody st) (defScope st) .none kV doc pm an (.ref cda) ct cc), osl⟩) (c : codeIn K (.ref cda) qual = true) (lc : K.lookup cda = some ⟨ccl, cdd, .fields vs, ccs⟩) (v2 : vs[2]? = some (.str file tf)) (fl : ((prog.main.file : Str) == file) = true)
    (lcc : K.lookup cc = some ⟨cl, cld, .cell (some (.ref C)), csl⟩) (cls : clsIn K C = some cdC) (self : mroIn K C (.ref C) = some true) (op : nsIn K cStatics "thirdparty.any" = some none) (sup : ks_superIn K C C "__init__" = some (some (.builtin i))) (hB : subIn K (.ref C) (.type B) = some true)
    (hs : findIn K (.ref C) "__setattr__" = some (some (.builtin "object.__setattr__"))) (ov : excOver K C bmB = true) (ht : takerIn K C f = some none) (hh : hasDictIn K C = true) (top : (prog.main.scope.names.lookup ("super" : Str)).isSome = false) : ErrN K prog mg x f ok :=
  ⟨C, fI, cda, cc, B, newId, i, bmB, sf, y, arg, st, ⟨FB, KF, SF, q, hi, ti, ⟨_, _, _, _, _, _, _, _, _, l, c⟩, ⟨_, _, _, _, _, _, lc, v2, fl⟩, ⟨_, _, _, lcc⟩, ⟨_, cls⟩, self, op, sup, hB, hs, ov, ht, hh, T.body, T.args, T.kind, T.co, T.gen, T.nocell, T.nS, T.nC, T.n1, T.n2, T.ne, T.d1, T.d2, T.bind, top⟩,
    mg_of X G n, mg_none_of X G nsu, n, k, s, ty, hA⟩
end Dk
set_option exponentiation.threshold 256
namespace Dk
open PySem PySem.Spec PyProof.Rows L2 PySem.Froz
/-- the texts of a list, each once -/
def ddS : List Str → List Str
  | [] => []
  | x :: r => if x ∈ r then ddS r else x :: ddS r
theorem mem_ddS {k : Str} : ∀ {l : List Str}, k ∈ ddS l ↔ k ∈ l
  | [] => Iff.rfl
  | x :: r => by
    unfold ddS
    split
    · rename_i h
      rw [mem_ddS, List.mem_cons]
      exact ⟨Or.inr, fun z => z.elim (fun e => e ▸ h) id⟩
    · rw [List.mem_cons, List.mem_cons, mem_ddS]
theorem nodup_ddS : ∀ l : List Str, (ddS l).Nodup
  | [] => List.nodup_nil
  | x :: r => by
    unfold ddS
    split
    · exact nodup_ddS r
    · rename_i h
      exact List.nodup_cons.mpr ⟨fun z => h (mem_ddS.mp z), nodup_ddS r⟩
/-- the set at a holds the texts l -/
def SetT (P : Program) (w : World) (h : Heap) (a : Addr) (l : List Str) : Prop :=
  ∃ D, h.get? a = some (sObj "set" D) ∧ TxOk P w D l ∧ l.Nodup ∧ Ris D.2.2.place.toList ∧ (w.params.followText "set-order" = true ∨ D.2.2.led = true)
section
variable {P : Program} {w : World} {A : Around} {E : Value → Shared → Prop} {s : Shared} {h h' : Heap} {a : Addr} {l : List Str}
theorem SetT.at (R : SetT P w h a l) (k : ∀ o, h.get? a = some o → h'.get? a = some o) : SetT P w h' a l := by
  obtain ⟨D, ho, r⟩ := R
  exact ⟨D, k _ ho, r⟩
theorem SetT.fresh (ho : h.get? a = some { cls := .type "set", dict := none, data := .set #[] 0 (.fresh 0 0 (!w.params.followText "set-order")) }) : SetT P w h a [] :=
  ⟨(#[], 0, .fresh 0 0 (!w.params.followText "set-order")), ho, TxOk.nil rfl, List.nodup_nil, List.Pairwise.nil, by
    show _ ∨ (!w.params.followText "set-order") = true
    cases w.params.followText "set-order"
    · exact .inr rfl
    · exact .inl rfl⟩
theorem tail_ris {ep : Nat} {es1 : Array (Int × Value)} {t2 : SetTable} {wd : Bool} (r : Ris t2.place.toList) : Ris (tailTx ep es1 t2 wd).2.2.place.toList := by
  unfold tailTx
  split
  · exact relayAll_ris _ _ _
  · exact r
theorem tail_led {ep : Nat} {es1 : Array (Int × Value)} {t2 : SetTable} {wd : Bool} : (tailTx ep es1 t2 wd).2.2.led = t2.led := by
  unfold tailTx
  split
  · exact relayAll_led _ _ _
  · rfl
theorem add_ris {D : SD} {hh : Int} {v : Value} (r : Ris D.2.2.place.toList) : Ris (addTx hh v D).2.2.place.toList := by
  unfold addTx
  refine tail_ris ?_
  have q := layNew_ris D.2.2 D.1 hh v r
  split
  · exact q
  · exact q
theorem add_led {D : SD} {hh : Int} {v : Value} : (addTx hh v D).2.2.led = D.2.2.led := by
  unfold addTx
  rw [tail_led]
  have q := layNew_led D.2.2 D.1 hh v
  split
  · exact q
  · exact q
/-- the set with k -/
def insS (k : Str) (l : List Str) : List Str := if k ∈ l then l else k :: l
theorem setT_add {k : Str} {u : Tok} {Q : Bool → Shared → Prop} (R : SetT P w s.heap a l) (room : l.length + 1 < scanBound)
    (hQ : ∀ h' b, Heap.SameBut a s.heap h' → SetT P w h' a (insS k l) → Q b { s with heap := h' }) : wpAny (model P w) A (setAddHashed a (.str k u) (hashStr w k)) Q E s := by
  obtain ⟨D, ho, F, nd, ri, le⟩ := R
  by_cases hk : k ∈ l
  · have e : insS k l = l := if_pos hk
    rw [e] at hQ
    have q := hQ s.heap false (Heap.SameBut.refl a s.heap) ⟨D, ho, F, nd, ri, le⟩
    obtain ⟨es, ep, t⟩ := D
    have hd : (sObj "set" (es, ep, t)).data = .set es ep t := rfl
    have hf : t.fits es.size = true := F.fit
    have hel : ElemsOf (strKind P w) es.toList := F.el
    have hb0 : es.size < scanBound := by have z : es.size = l.length := F.sz; omega
    have hkey : (strKind P w).is k (.str k u) = true := is_str k u
    unfold setAddHashed setAddHashedIn
    refine wpAny_holding (wpAny_bind (wpAny_setState_of ho hd hf ?_))
    dsimp only
    rw [byScan_of rfl hb0 hel]
    simp only [↓reduceIte]
    unfold setAddByScan
    refine wpAny_bind ?_
    refine wpAny_bind (wpAny_rule ?_)
    refine wpAny_bind (wpAny_setScan_of (knd := strKind P w) (k := k) hkey ho hd hf hel ?_)
    cases hfi : List.findIdx? (fun e => (strKind P w).is k e.2) es.toList with
    | some j =>
      dsimp only
      exact wpAny_pure (wpAny_pure q)
    | none =>
      obtain ⟨e, he, z⟩ := (F.mem k).mp hk
      have c := List.findIdx?_eq_none_iff.mp hfi e he
      rw [z] at c
      cases c
  · have e : insS k l = k :: l := if_neg hk
    rw [e] at hQ
    refine add_x ho F hk room (hQ _ true (Heap.SameBut.update s.heap a _) ⟨_, get_upd _ ho rfl, add_ok u F, List.nodup_cons.mpr ⟨hk, nd⟩, add_ris ri, ?_⟩)
    rw [add_led]
    exact le
def insAll (ts l : List Str) : List Str := ts.foldl (fun l k => insS k l) l
theorem insS_len (k : Str) (l : List Str) : (insS k l).length ≤ l.length + 1 := by
  unfold insS
  split
  · exact Nat.le_succ _
  · exact Nat.le_refl _
theorem mem_insS {k x : Str} {l : List Str} : x ∈ insS k l ↔ x = k ∨ x ∈ l := by
  unfold insS
  split
  · rename_i h
    exact ⟨.inr, fun z => z.elim (fun e => by rw [e]; exact h) id⟩
  · exact List.mem_cons
theorem mem_insAll {x : Str} : ∀ {ts l : List Str}, x ∈ insAll ts l ↔ x ∈ ts ∨ x ∈ l
  | [], l => ⟨.inr, fun z => z.elim (fun y => nomatch y) id⟩
  | t :: ts, l => by
    show x ∈ insAll ts (insS t l) ↔ _
    rw [mem_insAll, mem_insS, List.mem_cons]
    constructor
    · rintro (h | h | h)
      · exact .inl (.inr h)
      · exact .inl (.inl h)
      · exact .inr h
    · rintro ((h | h) | h)
      · exact .inr (.inl h)
      · exact .inl h
      · exact .inr (.inr h)
theorem set_update_txt {I : Addr} {fp wr : List Addr} {G : Array GenState → Array GenState → Prop} {n : Nat} {Pv : Nat → Value → Prop} {St : Nat → Shared → Prop} {R : Result → Shared → Prop}
    (W : WalksS P w A.in1 I fp wr G n Pv St) (S : Addr) (hSf : S ∉ fp) (ns : List Str) (hn : n = ns.length) (hval : ∀ i v, Pv i v → ∃ k t, ns[i]? = some k ∧ v = .str k t) :
    ∀ (k i : Nat) (s : Shared) (l : List Str), n - i = k → i ≤ n → St i s → l.length + k + 1 < scanBound → SetT P w s.heap S l →
      (∀ s', Moved (S :: wr) G s s' → SetT P w s'.heap S (insAll (ns.drop i) l) → R (.ok (.ret .none)) s') →
      codeAny (model P w) A (.builtin "set.update.loop" ⟨[.ref S, .ref I], []⟩) R s := by
  have hSw : S ∉ wr := fun h => hSf (W.sub _ h)
  have hsub : ∀ b ∈ wr, b ∈ S :: wr := fun b hb => List.mem_cons_of_mem _ hb
  intro k
  induction k with
  | zero =>
    intro i s l hk' hi hst hb hS hR
    have hin : i = n := by omega
    subst hin
    refine codeAny_builtin F.entry_set_update_loop ?_
    rw [Around.under_plainId F.plain_set_update_loop _]
    show wpAny _ A.in1 (pyNext (.ref I) >>= _) _ _ s
    refine wpAny_bind (W.done s _ _ hst fun s' hm => ?_)
    show wpAny _ A.in1 (ret Value.none) _ _ s'
    have e : ns.drop i = [] := List.drop_of_length_le (by omega)
    rw [e] at hR
    exact wpAny_pure (hR s' (hm.mono hsub) (hS.at fun o e => hm.heap S o hSw e))
  | succ k ih =>
    intro i s l hk' hi hst hb hS hR
    have hlt : i < n := by omega
    refine codeAny_builtin F.entry_set_update_loop ?_
    rw [Around.under_plainId F.plain_set_update_loop _]
    show wpAny _ A.in1 (pyNext (.ref I) >>= _) _ _ s
    refine wpAny_bind (W.item i s _ _ hlt hst fun v s' hP hst' hm => ?_)
    obtain ⟨z, t, hz, rfl⟩ := hval i v hP
    have hS' : SetT P w s'.heap S l := hS.at fun o e => hm.heap S o hSw e
    show wpAny _ A.in1 (holding [Value.str z t] (setAdd S (.str z t)) >>= _) _ _ s'
    refine wpAny_bind (wpAny_holding ?_)
    unfold setAdd
    refine wpAny_holding ?_
    refine wpAny_bind ((strKind P w).pyHash (k := z) (is_str _ _) ?_)
    have hin : i < ns.length := by omega
    have ed : ns.drop i = z :: ns.drop (i + 1) := by
      rw [List.drop_eq_getElem_cons hin]
      have q := List.getElem?_eq_getElem hin
      rw [hz] at q
      rw [Option.some.inj q]
    rw [ed] at hR
    refine setT_add (s := { s' with toks := s'.toks + 1 }) hS' (by omega) fun h' b hsb hS2 => ?_
    refine wpAny_pure ⟨plainId_quiet F.plain_set_update_loop _, ih (i + 1) _ (insS z l) (by omega) hlt (W.frame _ s' _ _ hst' (Nat.le_succ _) fun b hb o e => ?_) (by have := insS_len z l; omega) hS2 fun s'' hm'' hS'' => ?_⟩
    · rw [hsb.2 b (fun h : b = S => hSf (by rw [← h]; exact hb))]; exact e
    · refine hR s'' (Moved.trans W.gtrans ((hm.mono hsub).then_heap (Nat.le_succ _) fun b o hb e => ?_) hm'') hS''
      rw [hsb.2 b (fun h : b = S => hb (by rw [h]; exact List.mem_cons_self))]; exact e
end
end Dk
set_option exponentiation.threshold 256
namespace Dk
open PySem PySem.Spec PyProof.Rows L2 PySem.Froz
def TxtsAre (its : Array Value) (ns : List Str) : Prop := its.size = ns.length ∧ ∀ (i : Nat) (v : Value), its[i]? = some v → ∃ k t, ns[i]? = some k ∧ v = .str k t
abbrev set0 (w : World) : Obj := { cls := .type "set", dict := none, data := .set #[] 0 (.fresh 0 0 (!w.params.followText "set-order")) }
section
variable {P : Program} {w : World} {A : Around} {E : Value → Shared → Prop} {s : Shared}
set_option maxHeartbeats 3200000 in
theorem call_set_txt {l : Addr} {items : Array Value} (ns : List Str) {Q : Value → Shared → Prop} (hh : A.handled = none) (hl : s.heap.IsList l items) (hit : TxtsAre items ns) (hb : ns.length + 1 < scanBound)
    (h : ∀ (h' : Heap) (tk : Nat), SetT P w h' s.heap.objs.size (insAll ns []) → (∀ b o, s.heap.get? b = some o → h'.get? b = some o) → Q (.ref s.heap.objs.size) { s with heap := h', toks := tk }) :
    wpAny (model P w) A (call (.type "set") [.ref l]) Q E s := by
  have hisz : items.size = ns.length := hit.1
  obtain ⟨c, tl, hmro⟩ := F.called_set.mro
  have hmade := F.called_set.made
  have hsub := F.called_set.sub
  refine wpAny_call (codeAny_of_tree ?_)
  show wpAny _ _ (callAny (.type "set") _) _ _ _
  refine wpAny_pure ⟨Code.quiet_builtin _ (by decide +kernel), codeAny_builtin F.entry_type_call ?_⟩
  rw [Around.under_plain (weight_type_call_type "set" [.ref l] []) rfl]
  have h1 := F.called_set.notType
  have h2 := F.called_set.canCreate
  have hct := F.typeCall_set_1 (.ref l)
  repeat (any_goals (first | assumption | wp_step))
  refine codeAny_mono (code_set_led1 (.ref l) (E := E) (Q₁ := fun obj s₁ => obj = .ref s.heap.objs.size ∧ s₁ = { s with heap := s.heap.push (set0 w) }) ⟨rfl, rfl⟩) fun r s₁ hr => ?_
  cases r with
  | error e => exact hr
  | ok fl =>
    cases fl with
    | ret obj =>
      obtain ⟨rfl, rfl⟩ := hr
      have hS : (s.heap.push (set0 w)).get? s.heap.objs.size = some (set0 w) := Heap.get?_push_size _ rfl
      have hT : Shared.TypeIs { s with heap := s.heap.push (set0 w) } (.ref s.heap.objs.size) "set" := ⟨_, hS, rfl⟩
      have hli := F.called_set.init.lookup
      have hbi := F.called_set.init.bind (.ref s.heap.objs.size)
      repeat (any_goals (first | assumption | wp_step))
      refine codeAny_mono (codeAny_call_builtin (R := wants (fun r s₂ => r = .none ∧ ∃ h' tk, s₂ = { s with heap := h', toks := tk } ∧ SetT P w h' s.heap.objs.size (insAll ns []) ∧
          (∀ b o, s.heap.get? b = some o → h'.get? b = some o)) E) F.called_set.init.plain F.entry_set_init (check_set_init_1 hT ?_)) fun r₂ s₂ hr₂ => ?_
      · obtain ⟨ol, hol, hcl, nl, hdl⟩ := hl
        obtain ⟨ocls, odict, odata, oslots⟩ := ol
        simp only at hcl hdl
        subst hcl; subst hdl
        have hol' : (s.heap.push (set0 w)).get? l = some { cls := .type "list", dict := odict, data := .seq items nl, slots := oslots } := Heap.get?_push_of_some _ hol
        have hsls := F.sub_list_set
        have hslf := F.sub_list_frozenset
        have hne : (Value.type "list" == Value.type "dict") = false := by decide
        have hl1 : (s.heap.push (set0 w)).IsList l items := ⟨_, hol', rfl, nl, rfl⟩
        unfold Builtin.«set.__init__» noKeywords Builtin.Frozenset.updateFrom
        generalize hPI : pyIter = PI
        wp_walk
        subst hPI
        refine wpAny_pyIter_list hl1 ?_
        refine wpAny_bind (wpAny_runValue ?_)
        have hlS : l < s.heap.objs.size := Heap.lt_size hol
        have hh3 : A.in1.in1.in1.handled = none := by simp [hh]
        have hz1 : (s.heap.push (set0 w)).objs.size = s.heap.objs.size + 1 := Heap.size_push ..
        have hneI : l ≠ (s.heap.push (set0 w)).objs.size := by rw [hz1]; exact Nat.ne_of_lt (Nat.lt_succ_of_lt hlS)
        have hSf : s.heap.objs.size ∉ [(s.heap.push (set0 w)).objs.size, l] := by
          rw [hz1]
          intro z
          rcases List.mem_cons.mp z with z | z
          · exact absurd z (Nat.ne_of_lt (Nat.lt_succ_self _))
          · exact absurd (List.mem_singleton.mp z).symm (Nat.ne_of_lt hlS)
        refine set_update_txt ((Walks.list hh3 _ l hneI items).toS) s.heap.objs.size hSf ns hisz hit.2 (items.size - 0) 0 _ [] (by omega) (Nat.zero_le _)
          ⟨⟨_, Heap.get?_push_size _ rfl, rfl, rfl⟩, (hl1.push _)⟩ (by rw [hisz]; simpa using hb) (SetT.fresh (Heap.get?_push_of_some _ hS)) fun s' hm hS' => ?_
        obtain ⟨h', g2, d', tk', os'⟩ := s'
        have eg : g2 = s.gens := hm.gens
        have ed : d' = s.drawn := hm.drawn
        have eo : os' = s.os := hm.os
        subst eg; subst ed; subst eo
        show wpAny _ _ _ _ _ _
        refine wpAny_pure ?_
        show wpAny _ _ (ret Value.none) _ _ _
        refine wpAny_pure ⟨rfl, h', tk', rfl, hS', fun b o e => ?_⟩
        have hb0 : b < s.heap.objs.size := Heap.lt_size e
        refine hm.heap b o (fun z => ?_) (Heap.get?_push_of_some _ (Heap.get?_push_of_some _ e))
        rcases List.mem_cons.mp z with z | z
        · exact absurd z (Nat.ne_of_lt hb0)
        · have z := List.mem_singleton.mp z
          rw [hz1] at z
          exact absurd z (Nat.ne_of_lt (Nat.lt_succ_of_lt hb0))
      · cases r₂ with
        | error e => exact hr₂
        | ok fl₂ =>
          cases fl₂ with
          | ret r =>
            obtain ⟨rfl, h', tk, rfl, hS', hk'⟩ := hr₂
            repeat (any_goals (first | assumption | wp_step))
            exact h _ _ hS' hk'
          | _ => exact hr₂.elim
    | _ => exact hr.elim
end
end Dk
set_option exponentiation.threshold 256
namespace Dk
open PySem PySem.Spec PyProof.Rows L2 PySem.Froz
variable [tabP : TabP]
def leS (a b : Str) : Bool := decide (a.cps.toList ≤ b.cps.toList)
def srtS (l : List Str) : List Str := isort leS (ddS l)
theorem leS_total : PySem.W.TotalLe leS where
  trans := fun a b c h1 h2 => decide_eq_true (List.le_trans (of_decide_eq_true h1) (of_decide_eq_true h2))
  total := fun a b => (List.le_total a.cps.toList b.cps.toList).imp decide_eq_true decide_eq_true
theorem leS_anti {a b : Str} (h1 : leS a b = true) (h2 : leS b a = true) : a = b := by
  have e := List.le_antisymm (of_decide_eq_true h1) (of_decide_eq_true h2)
  obtain ⟨x⟩ := a
  obtain ⟨y⟩ := b
  exact congrArg Str.mk (Array.ext' e)
theorem leS_refl (a : Str) : leS a a = true := decide_eq_true (List.le_refl _)
theorem rank_eq (c : Str) : PySem.W.sameRank leS c = fun x => x == c := by
  funext x
  unfold PySem.W.sameRank
  by_cases h : x = c
  · subst h
    rw [leS_refl, beq_self_eq_true]; rfl
  · rw [beq_false_of_ne h]
    cases q : leS c x && leS x c with
    | false => first | exact q | (rw [Bool.and_comm]; exact q) | rfl
    | true =>
      have z := Bool.and_eq_true_iff.mp q
      exact absurd (leS_anti z.2 z.1) h
theorem sort_set {bs ns : List Str} (nd : bs.Nodup) (hm : ∀ k, k ∈ bs ↔ k ∈ ns) : bs.mergeSort leS = srtS ns := by
  unfold srtS
  refine (PySem.W.sort_unique leS_total (isort_sorted leS_total _) fun c => ?_).symm
  rw [isort_filter leS_total c]
  have pm : (ddS ns).Perm bs := (List.perm_ext_iff_of_nodup (nodup_ddS ns) nd).mpr fun k => by rw [mem_ddS, hm]
  rw [rank_eq, List.filter_beq, List.filter_beq, pm.count_eq]
def strV : Value → Str
  | .str k _ => k
  | _ => Str.empty
section
variable {P : Program} {w : World} {A : Around} {E : Value → Shared → Prop} {s : Shared} {a : Addr} {l : List Str}
theorem sorted_setTx {Q : Value → Shared → Prop} (R : SetT P w s.heap a l) (hh : A.handled = none) (hb : l.length < scanBound) (un : A.units + 8 < cLine)
    (hQ : ∀ s' p (out : List Value) (c : Nat), (∀ b o, s.heap.get? b = some o → s'.heap.get? b = some o) → s'.gens = s.gens → s'.os = s.os → s.heap.objs.size ≤ p →
      s'.heap.get? p = some (seqObj "list" out.toArray c) → PySem.W.EachIs (fun v b => ∃ t, v = .str b t) out (srtS l) → Q (.ref p) s') :
    wpAny (model P w) A (call (.builtin "sorted") [.ref a]) Q E s := by
  obtain ⟨D, ho, F, nd, ri, le⟩ := R
  have hsz : D.1.size = l.length := F.sz
  refine Calls.call_function_entry kind_sorted plain_sorted entry_sorted (args_sorted1 _) ?_
  unfold Builtin.«sorted»
  refine wpAny_bind (m := checkCount "sorted" 1 1 _) (wpAny_pure ?_)
  refine wpAny_bind (collect_set (A := A.in1) (es := D.1) (ep := D.2.1) (t := D.2.2) hh ⟨_, ho, rfl, rfl⟩ F.fit (by rw [hsz]; exact hb) ri le fun s1 vs k1 hz g1 o1 pm => ?_)
  have hv : ∀ v ∈ vs, ∃ k t, v = Value.str k t := fun v hv => by
    obtain ⟨e, he, ev⟩ := List.mem_map.mp (pm.mem_iff.mp hv)
    obtain ⟨⟨k, h1, _⟩, _⟩ := F.el e he
    obtain ⟨t, e1⟩ := Value.isStrOf_shape (x := k) (v := e.2) h1
    exact ⟨k, t, ev.symm.trans e1⟩
  have e1 : ∀ {vs : List Value}, (∀ v ∈ vs, ∃ k t, v = Value.str k t) → PySem.W.EachIs (fun v b => ∃ t, v = Value.str b t) vs (vs.map strV) := fun {vs} => by
    induction vs with
    | nil => exact fun _ => .nil
    | cons v r ih =>
      intro h
      obtain ⟨k, t, rfl⟩ := h v List.mem_cons_self
      exact .cons ⟨t, rfl⟩ (ih fun u hu => h u (List.mem_cons_of_mem _ hu))
  have e2 : ∀ {vs : List Value} {bs : List Str} {h : Heap} {p : Addr}, PySem.W.EachIs (fun v b => ∃ t, v = Value.str b t) vs bs → PySem.W.EachIs (fun v b => ∃ as, Reads h v (PyData.str b) as ∧ p ∉ as) vs bs := fun {vs bs h p} q => by
    induction q with
    | nil => exact .nil
    | cons r t ih =>
      obtain ⟨tk, rfl⟩ := r
      exact .cons ⟨[], .str _ _, by simp⟩ ih
  have hbs : ∀ k, k ∈ vs.map strV ↔ k ∈ l := fun k => by
    rw [F.mem k]
    constructor
    · intro h
      obtain ⟨v, hv1, rfl⟩ := List.mem_map.mp h
      obtain ⟨kk, t, rfl⟩ := hv v hv1
      obtain ⟨e, he, ev⟩ := List.mem_map.mp (pm.mem_iff.mp hv1)
      refine ⟨e, he, ?_⟩
      have ev : e.2 = .str kk t := ev
      rw [ev]
      exact is_str _ _
    · rintro ⟨e, he, h1⟩
      obtain ⟨t, e1⟩ := Value.isStrOf_shape (x := k) (v := e.2) h1
      exact List.mem_map.mpr ⟨e.2, pm.mem_iff.mpr (List.mem_map.mpr ⟨e, he, rfl⟩), by rw [e1]; rfl⟩
  have hlen : (vs.map strV).length = l.length := by rw [List.length_map, pm.length_eq, List.length_map, Array.length_toList, hsz]
  have hnd : (vs.map strV).Nodup := by
    have sub : (vs.map strV).Nodup ∨ ¬ (vs.map strV).Nodup := Classical.em _
    rcases sub with h | h
    · exact h
    · exfalso
      have p1 : (ddS (vs.map strV)).Perm l := (List.perm_ext_iff_of_nodup (nodup_ddS _) nd).mpr fun k => by rw [mem_ddS, hbs]
      have short : ∀ {xs : List Str}, ¬ xs.Nodup → (ddS xs).length < xs.length := fun {xs} => by
        have le : ∀ ys : List Str, (ddS ys).length ≤ ys.length := fun ys => by
          induction ys with
          | nil => exact Nat.le_refl _
          | cons y r ih =>
            unfold ddS
            split
            · exact Nat.le_succ_of_le ih
            · exact Nat.succ_le_succ ih
        induction xs with
        | nil => intro h; exact absurd List.nodup_nil h
        | cons x r ih =>
          intro h
          unfold ddS
          split
          · exact Nat.lt_succ_of_le (le r)
          · rename_i hx
            have : ¬ r.Nodup := fun q => h (List.nodup_cons.mpr ⟨hx, q⟩)
            exact Nat.succ_lt_succ (ih this)
      have := short h
      rw [p1.length_eq, hlen] at this
      exact Nat.lt_irrefl _ this
  have hvl : vs.length = l.length := by rw [← hlen, List.length_map]
  have hline : vs.length ≤ sizeLine := by rw [hvl]; exact fits_of_scanBound hb
  refine wpAny_bind (wpAny_newList ?_ hline)
  have hoL : (s1.heap.push (seqObj "list" vs.toArray 0)).get? s1.heap.objs.size = some (seqObj "list" vs.toArray 0) := Heap.get?_push_size _ rfl
  refine wpAny_bind (wpAny_holding (PySem.W.list_sort_data (R := fun v b => ∃ t, v = Value.str b t) (enc := PyData.str) hoL (e1 hv) (e2 (e1 hv)) (PySem.W.AllAlike.of fun _ _ => rfl) (PySem.W.Sortable.others fun _ => ⟨fun z => (nomatch z), fun _ z => (nomatch z)⟩) (by rw [List.length_map]; exact hline) (fun b _ => by
      show A.in1.units + 1 + (PyData.str b).depth < cLine
      have z : (PyData.str b).depth = 0 := by first | rfl | simp [PyData.depth]
      rw [z]
      have : A.in1.units ≤ A.units + 1 := by first | exact Nat.le_refl _ | (show A.units + 1 ≤ _; exact Nat.le_refl _) | simp [Around.in1]
      omega) fun out ho2 eo => ?_))
  obtain ⟨c, hc⟩ := sortedHeap_at (vs := vs) (out := out.toArray) hoL
  rw [show PySem.W.dataLe false PyData.str = leS from PySem.W.dataLe_str (fun b : Str => b), sort_set hnd hbs] at eo
  refine wpAny_pure ⟨_, rfl, hQ _ s1.heap.objs.size out c (fun b u e => ?_) g1 o1 hz hc eo⟩
  have q := k1 b u e
  have hlt := Heap.lt_size q
  show (sortedHeap (s1.heap.push (seqObj "list" vs.toArray 0)) s1.heap.objs.size vs out.toArray).get? b = some u
  rw [sortedHeap_old (Nat.ne_of_lt hlt) (by rw [size_push']; exact Nat.lt_succ_of_lt hlt)]
  exact Heap.get?_push_of_some _ q
end
end Dk
set_option exponentiation.threshold 256
namespace Dk
open PySem PySem.Spec PyProof.Rows L2 PySem.Froz
variable [tabP : TabP]
variable {K : PySem.W.Frag}
theorem insAll_len : ∀ (ts l : List Str), (insAll ts l).length ≤ l.length + ts.length
  | [], l => Nat.le_refl _
  | t :: ts, l => by
    show (insAll ts (insS t l)).length ≤ _
    have h := insAll_len ts (insS t l)
    have h2 := insS_len t l
    rw [List.length_cons]
    omega
theorem insS_nodup {k : Str} {l : List Str} (h : l.Nodup) : (insS k l).Nodup := by
  unfold insS
  split
  · exact h
  · rename_i q
    exact List.nodup_cons.mpr ⟨q, h⟩
theorem insAll_nodup : ∀ {ts l : List Str}, l.Nodup → (insAll ts l).Nodup
  | [], _, h => h
  | t :: ts, l, h => by
    show (insAll ts (insS t l)).Nodup
    exact insAll_nodup (insS_nodup h)
theorem srtS_ins (ns : List Str) : srtS (insAll ns []) = srtS ns := by
  have nd : (insAll ns []).Nodup := insAll_nodup List.nodup_nil
  rw [← sort_set nd (fun k => Iff.rfl), sort_set nd (ns := ns) fun k => by rw [mem_insAll]; exact ⟨fun z => z.elim id (fun y => nomatch y), .inl⟩]
def rSrtS : List V → Hp → VK → Prop := fun xs H Q => ∃ (a : Addr) (ns : List Str), xs = [V.ref a] ∧ H a = some (.lst (ns.map V.str)) ∧ ns.length ≤ 2000 ∧ ∀ p, H p = none → Q (.ref p) (upd H p (.lst ((srtS ns).map V.str)))
theorem ddS_len : ∀ l : List Str, (ddS l).length ≤ l.length
  | [] => Nat.le_refl _
  | x :: r => by
    unfold ddS
    split
    · exact Nat.le_succ_of_le (ddS_len r)
    · exact Nat.succ_le_succ (ddS_len r)
theorem insL_len {α : Type} (le : α → α → Bool) (x : α) : ∀ l : List α, (insL le x l).length = l.length + 1
  | [] => rfl
  | y :: r => by
    unfold insL
    split
    · rfl
    · rw [List.length_cons, insL_len le x r, List.length_cons]
theorem isort_len {α : Type} (le : α → α → Bool) : ∀ l : List α, (isort le l).length = l.length
  | [] => rfl
  | x :: r => by
    show (insL le x (isort le r)).length = _
    rw [insL_len, isort_len le r, List.length_cons]
theorem srtS_len (l : List Str) : (srtS l).length ≤ l.length := by
  unfold srtS
  rw [isort_len]
  exact ddS_len l
theorem txts_of : ∀ {ns : List Str} {its : List Value}, Vals (ns.map V.str) its → TxtsAre its.toArray ns
  | [], _, h => by
    have h' : Vals [] _ := h
    cases h'
    exact ⟨rfl, fun i v q => by simp at q⟩
  | n :: ns, _, h => by
    have h' : Vals (V.str n :: ns.map V.str) _ := h
    cases h' with
    | cons r t =>
      rename_i u us
      obtain ⟨tk, rfl⟩ := r
      obtain ⟨h1, h2⟩ := txts_of t
      refine ⟨by simpa using h1, fun i v q => ?_⟩
      cases i with
      | zero =>
        have q : Value.str n tk = v := by simpa using q
        exact ⟨n, tk, rfl, q.symm⟩
      | succ i =>
        obtain ⟨k, t, e1, e2⟩ := h2 i v (by simpa using q)
        exact ⟨k, t, e1, e2⟩
theorem vals_each : ∀ {out : List Value} {bs : List Str}, PySem.W.EachIs (fun v b => ∃ t, v = Value.str b t) out bs → Vals (bs.map V.str) out
  | _, _, .nil => .nil
  | _, _, .cons ⟨t, e⟩ r => .cons ⟨t, e⟩ (vals_each r)
section
variable {X : Cx} {a : Expr} {ta : TA} {p p2 q pos : Pos} {k : Nat}
theorem pe_srtS (hr : Room k X.A) (hc : X.calm = true) (hg : Gl X "sorted") (hm : X.mg "sorted" = none) (hg2 : Gl X "set") (hm2 : X.mg "set" = none) (ha : PA X [a] ta)
    (na : starEach [a] X.env = (false, eval a X.env) :: starEach [] X.env := by rfl) : PE X (.Call (.Name "sorted" p) [.Call (.Name "set" p2) [a] [] q] [] pos) (tCB rSrtS ta) := by
  refine ⟨fun pins s σ H Q I h => ?_⟩
  refine Call_ (ld_blt I hg hm PyProof.Rows.boot_sorted (PyProof.Rows.callWith_builtin1 (PyProof.Rows.args_cons ?_ rfl) rfl rfl))
  refine Call_ (ld_blt I hg2 hm2 PyProof.Rows.boot_set (PyProof.Rows.callWith_type1 (thn (ha.run q pins s σ H _ I h) fun us s1 ⟨vs, H1, I1, r1, q1⟩ => ?_) na rfl))
  obtain ⟨l, ns, e1, hl, hn, q1⟩ := q1
  subst e1
  cases r1 with
  | cons r rr =>
  cases rr
  cases r
  obtain ⟨its, rv, pl, hz⟩ := I1.list (.inl (.inl hl))
  have hb : ns.length + 1 < scanBound := by unfold scanBound; omega
  refine call_set_txt ns (I1.ok.hd hc) pl.isList (txts_of rv) hb fun h' tk hS hk => ?_
  refine PyProof.Rows.args_nil ?_
  have I2 : Inv X pins σ H1 { s1 with heap := h', toks := tk } := I1.kept fun b o e => hk b o e
  have hb2 : (insAll ns []).length < scanBound := by
    have := insAll_len ns []
    rw [List.length_nil] at this
    omega
  refine sorted_setTx (s := { s1 with heap := h', toks := tk }) hS (I1.ok.hd hc) hb2 (by have := hr.un; omega) fun s' pp out c k3 g o hp hgp eo => ?_
  rw [srtS_ins] at eo
  have hlen : ((srtS ns).map V.str).length ≤ sizeLine := by
    rw [List.length_map, sizeLine_eq]
    have := srtS_len ns
    omega
  have hn2 : H1 pp = none := I2.hok.fresh hp
  have J : Inv X pins σ (upd H1 pp (.lst ((srtS ns).map V.str))) { ({ s1 with heap := h', toks := tk } : Shared) with heap := s'.heap, gens := s'.gens, drawn := s'.drawn, toks := s'.toks } :=
    I2.call (s := { s1 with heap := h', toks := tk }) (ch := []) (Un.laid k3 hp hn2) (I2.hok.laid k3 hp ⟨hlen, out, c, vals_each eo, hgp⟩) (by rw [g]; exact I2.bare) (fun _ z => nomatch z)
  have e : s' = { s1 with heap := s'.heap, gens := s'.gens, drawn := s'.drawn, toks := s'.toks } := by
    cases s'
    cases s1
    cases o
    rfl
  rw [e]
  exact ⟨.ref pp, _, J, rfl, q1 pp hn2⟩
end
def srtD : List D → Option D
  | [.lst ds] => (strsD ds).bind fun ns => (okB (decide (ns.length ≤ 2000))).map fun _ => .lst ((srtS ns).map .str)
  | _ => none
theorem opAN_srtS : OpAN K rSrtS srtD := fun {F H xs ds d Q} s b hd q => by
  unfold srtD at hd
  split at hd
  · rename_i es
    obtain ⟨ns, h1, hd⟩ := Option.bind_eq_some_iff.mp hd
    obtain ⟨_, h2, hd⟩ := Option.map_eq_some_iff.mp hd
    cases hd
    obtain ⟨x, rfl, b1⟩ := b.one
    obtain ⟨a, ys, rfl, ha, rx⟩ := b1.isLst s
    rw [strsD_iff h1] at rx
    have e := rx.ofStrs
    subst e
    exact ⟨a, ns, rfl, ha, of_decide_eq_true (okB_iff h2), fun p n => q p _ n ⟨s.free n, _, upd_same, RpL.strs _⟩⟩
  · cases hd
section
variable {X : Cx} {a : Expr} {ma : MA} {p p2 q pos : Pos} {k : Nat}
theorem d_srtS (hc : X.calm = true) (hr : Room k X.A) (hm : X.mg "sorted" = none) (hm2 : X.mg "set" = none) (ha : PA X [a] (rA X.K ma)) (hg : Gl X "sorted" := by rfl) (hg2 : Gl X "set" := by rfl) (na : starEach [a] X.env = (false, eval a X.env) :: starEach [] X.env := by rfl) :
    PE X (.Call (.Name "sorted" p) [.Call (.Name "set" p2) [a] [] q] [] pos) (rN X.K (cbN srtD ma)) := toN (pe_srtS hr hc hg hm hg2 hm2 ha na) (sim_cbN opAN_srtS sim_rA)
end
end Dk
set_option exponentiation.threshold 256
namespace Dk
open PySem PySem.Spec PyProof.Rows L2
variable [tabP : TabP]
variable {K : PySem.W.Frag}
section
variable {X : Cx} {e a b c : Expr} {es : List Expr} {mx m2 : MX} {mt : MT} {W : WX} {pos : Pos}
theorem z_repr {k : Nat} {p : Pos} (hr : Room k X.A) (hgd : X.A.guards = some []) (hm : X.mg "repr" = none) (ha : PA X (e :: es) (zA X.K W mx)) (hg : Gl X "repr" := by rfl) (he : starEach (e :: es) X.env = (false, eval e X.env) :: starEach es X.env := by rfl) (hpl : (backTo pos (starEach es X.env)).any (·.1) = false := by rfl) :
    PE X (.Call (.Name "repr" p) (e :: es) [] pos) (zE X.K W mx) := impE (pe_callB (call_reprD hr hgd) hg hm (by decide +kernel) ha (by decide) (by decide) he hpl) fun σ H Q q => q
end
end Dk
set_option exponentiation.threshold 256
namespace Dk
open PySem PySem.Spec PyProof.Rows L2 PySem.Froz
end Dk
set_option exponentiation.threshold 256
namespace Dk
open PySem PySem.Spec PyProof.Rows L2 PySem.Froz
end Dk
set_option exponentiation.threshold 256
namespace Dk
open PySem PySem.Spec PyProof.Rows L2
end Dk
set_option exponentiation.threshold 256
namespace Dk
open PySem PySem.Spec PyProof.Rows L2
variable [tabP : TabP]
variable {K : PySem.W.Frag}
section
variable {X : Cx} {o a b e : Expr} {es : List Expr} {pos apos : Pos} {k : Nat} {n f : Str} {mo ma mb : ME} {mr : MA} {ps : List Str} {fm : MX} {W : WX}
def makZ (n : Str) (m : MX) (ma : MA) : MX := fun e => (ma e).bind fun p => (tks p.2 p.1).bind fun q => (m (.io (.obj n []) :: q.1.map .fz)).map fun r => (r.1, q.2)
def tMakeZ (K : PySem.W.Frag) (W : WX) (C : Addr) (m : MX) (t : TA) : TE := fun σ H _ => t σ H fun vs H1 => ∀ x dx, H1 x = none → H1 dx = none → dx ≠ x → spZ K m (.ref x :: vs) (upd (upd H1 dx (.own x)) x (.ins C dx [])) fun cls d H2 => W cls d σ H2
theorem rd_makZ {K : PySem.W.Frag} {W : WX} {C : Addr} {m : MX} {ma : MA} {σ : L2.St} {H : Hp} {Q : VK} (hC : PySem.W.nsIn K mainGlobals n = some (some (.ref C))) (q : zE K W (makZ n m ma) σ H Q) : tMakeZ K W C m (rA K ma) σ H Q := by
  obtain ⟨F0, Gd, ios, F, e, os, x0, e', Wd, hm, q⟩ := q
  unfold makZ at hm
  obtain ⟨⟨ls, e1⟩, h1, hm⟩ := Option.bind_eq_some_iff.mp hm
  obtain ⟨⟨ds, e2⟩, h2, hm⟩ := Option.bind_eq_some_iff.mp hm
  obtain ⟨⟨y, a'⟩, h3, hm⟩ := Option.map_eq_some_iff.mp hm
  cases hm
  refine ⟨F0, Gd, ios, F, e, os, ls, e1, Wd, h1, fun F1 H1 os1 xs W1 s1 k1 => ?_⟩
  obtain ⟨F2, os2, W2, s2, r⟩ := W1.takes k1 h2
  intro x dx nx ndx ne
  have fx : F2 x = none := W2.fh.free nx
  have fdx : F2 dx = none := W2.fh.free ndx
  have sF : Sm F2 (upd F2 dx (.own x)) := .of (Same.new fdx)
  have fh3 : Same (upd F2 dx (.own x)) (upd (upd H1 dx (.own x)) x (.ins C dx [])) := (same_upd2 W2.fh).trans (Same.new (by rw [upd_ne ne.symm]; exact nx))
  have fx3 : (upd F2 dx (.own x)) x = none := by rw [upd_ne ne.symm]; exact fx
  have tp3 : Tp (upd F2 dx (.own x)) (upd (upd H1 dx (.own x)) x (.ins C dx [])) := by
    have t1 : Tp F2 (upd H1 dx (.own x)) := W2.tp.lay (fun _ z => nomatch z) (.new ndx)
    have t2 : Tp F2 (upd (upd H1 dx (.own x)) x (.ins C dx [])) := t1.lay (fun _ z => nomatch z) (.new (by rw [upd_ne ne.symm]; exact nx))
    exact t2.frz fdx
  have ob : Ob K (upd F2 dx (.own x)) (upd (upd H1 dx (.own x)) x (.ins C dx [])) x (.obj n []) := ⟨fx3, _, upd_same, C, dx, [], rfl, hC, upd_same, .nil⟩
  refine ⟨upd F2 dx (.own x), _, _, y, a', args_io fh3 tp3 (r.mono sF) ob, h3, fun F' H' cls d sf fh g o tp ok => ?_⟩
  have keep : ∀ b u, H1 b = some u → F2 b = none → (∀ ps, u ≠ .tbl ps) → H' b = some u ∧ F' b = none := fun b u hb hn hk => by
    have bx : b ≠ x := ne_of_none hb nx
    have bd : b ≠ dx := ne_of_none hb ndx
    refine g b u (by rw [upd_ne bx, upd_ne bd]; exact hb) (by rw [upd_ne bd]; exact hn) hk fun i z => ?_
    cases i with
    | zero => cases z; exact bx rfl
    | succ i => exact noneOs b i z
  have xt : Ext F2 H1 F' H' := ext_of W2.fh (sF.trans sf) fh keep tp
  exact q F' H' σ os2 cls d (W2.ext xt) ((s1.trans s2).trans xt.f) ok
end
end Dk
set_option exponentiation.threshold 256
namespace Dk
open PySem PySem.Spec PyProof.Rows L2
end Dk
set_option exponentiation.threshold 256
namespace Dk
open PySem PySem.Spec PyProof.Rows L2
variable [tabP : TabP]
theorem ne_of_some_none {H : Hp} {a b : Addr} {u : HO} (h : H a = some u) (h2 : H b = none) : a ≠ b := fun z => by rw [z, h2] at h; cases h
/-- all objects of the heap but the one at L -/
def olds (h : Heap) (L : Addr) : List (Addr × Obj) := (List.range h.objs.size).filterMap fun b => if b = L then none else (h.get? b).map fun o => (b, o)
theorem mem_olds {h : Heap} {L : Addr} {p : Addr × Obj} : p ∈ olds h L ↔ h.get? p.1 = some p.2 ∧ p.1 ≠ L := by
  obtain ⟨b, o⟩ := p
  unfold olds
  rw [List.mem_filterMap]
  constructor
  · rintro ⟨c, hc, e⟩
    by_cases z : c = L
    · rw [if_pos z] at e; cases e
    · rw [if_neg z] at e
      obtain ⟨o', h1, h2⟩ := Option.map_eq_some_iff.mp e
      cases h2
      exact ⟨h1, z⟩
  · rintro ⟨h1, h2⟩
    exact ⟨b, List.mem_range.mpr (Heap.lt_size h1), by rw [if_neg h2, h1]; rfl⟩
def lenLe (x y : Str) : Bool := decide (x.length ≤ y.length)
theorem lenLe_total : PySem.W.TotalLe lenLe := by
  constructor
  · intro a b c h1 h2
    exact decide_eq_true (Nat.le_trans (of_decide_eq_true h1) (of_decide_eq_true h2))
  · intro a b
    unfold lenLe
    rcases Nat.le_total a.length b.length with h | h
    · simp [h]
    · simp [h]
/-- a text's value -/
def txt : Value → Str
  | .str x _ => x
  | _ => ""
def AreT (vs : List Value) : Prop := ∀ v ∈ vs, ∃ x t, v = Value.str x t
theorem vals_txt : ∀ {vs : List Value}, AreT vs → Vals ((vs.map txt).map V.str) vs
  | [], _ => .nil
  | v :: vs, h => by
    obtain ⟨x, t, rfl⟩ := h v List.mem_cons_self
    exact .cons ⟨t, rfl⟩ (vals_txt fun u hu => h u (List.mem_cons_of_mem _ hu))
theorem txt_vals : ∀ {xs : List Str} {vs : List Value}, Vals (xs.map V.str) vs → AreT vs ∧ vs.map txt = xs
  | [], _, .nil => ⟨fun _ h => (nomatch h), rfl⟩
  | x :: xs, v :: vs, .cons r t => by
    obtain ⟨k, rfl⟩ := r
    obtain ⟨h1, h2⟩ := txt_vals t
    refine ⟨fun u hu => ?_, by rw [List.map_cons, h2]; rfl⟩
    rcases List.mem_cons.mp hu with e | e
    · exact ⟨x, k, e⟩
    · exact h1 u e
def lenK (p : Int × Value) : Prop := p.1 = ((txt p.2).length : Int)
theorem zip_txt : ∀ {vs : List Value}, ∀ p ∈ ((vs.map txt).map fun x => (x.length : Int)).zip vs, lenK p ∧ p.2 ∈ vs
  | [], p, h => by simp at h
  | v :: vs, p, h => by
    rw [List.map_cons, List.map_cons, List.zip_cons_cons] at h
    rcases List.mem_cons.mp h with e | e
    · rw [e]; exact ⟨rfl, List.mem_cons_self⟩
    · obtain ⟨h1, h2⟩ := zip_txt (vs := vs) p e
      exact ⟨h1, List.mem_cons_of_mem _ h2⟩
theorem zip_snd : ∀ {vs : List Value}, (((vs.map txt).map fun x => (x.length : Int)).zip vs).map (fun p => txt p.2) = vs.map txt
  | [] => rfl
  | v :: vs => by
    rw [List.map_cons, List.map_cons, List.zip_cons_cons, List.map_cons, zip_snd]
theorem filter_key {c : Str} : ∀ {ps : List (Int × Value)}, (∀ p ∈ ps, lenK p) → (ps.map fun p => txt p.2).filter (PySem.W.sameRank lenLe c) = (ps.filter fun p => p.1 == (c.length : Int)).map fun p => txt p.2
  | [], _ => rfl
  | p :: ps, h => by
    have hp : p.1 = ((txt p.2).length : Int) := h p List.mem_cons_self
    have e : PySem.W.sameRank lenLe c (txt p.2) = (p.1 == (c.length : Int)) := by
      unfold PySem.W.sameRank lenLe
      rw [hp, ← Bool.decide_and]
      by_cases z : (txt p.2).length = c.length
      · rw [decide_eq_true (by omega), z]; simp
      · rw [decide_eq_false (by omega)]
        symm
        exact beq_false_of_ne (by omega)
    rw [List.map_cons, List.filter_cons, List.filter_cons, e, filter_key fun q hq => h q (List.mem_cons_of_mem _ hq)]
    split <;> rfl
/-- what the sort by length gives -/
theorem out_len {vs out : List Value} (h : AreT vs) (ko : KskOutSt false ((vs.map txt).map fun x => (x.length : Int)) vs out) : AreT out ∧ out.map txt = isort lenLe (vs.map txt) ∧ out.length = vs.length := by
  obtain ⟨ps, p1, p2, p3, p4⟩ := ko
  have hk : ∀ p ∈ ps, lenK p := fun p hp => (zip_txt p (p1.mem_iff.mp hp)).1
  have hm : ∀ p ∈ ps, p.2 ∈ vs := fun p hp => (zip_txt p (p1.mem_iff.mp hp)).2
  refine ⟨fun v hv => ?_, ?_, ?_⟩
  · rw [p2] at hv
    obtain ⟨p, hp, rfl⟩ := List.mem_map.mp hv
    exact h _ (hm p hp)
  · rw [isort_eq lenLe_total]
    have e : out.map txt = ps.map fun p => txt p.2 := by rw [p2, List.map_map]; rfl
    rw [e]
    refine PySem.W.sort_unique lenLe_total ?_ fun c => ?_
    · rw [List.pairwise_map]
      refine p3.imp_of_mem fun {a b} ha hb q => ?_
      have q : a.1 ≤ b.1 := q
      rw [show a.1 = _ from hk a ha, show b.1 = _ from hk b hb] at q
      exact decide_eq_true (by omega)
    · have q := filter_key (c := c) (ps := ((vs.map txt).map fun x => (x.length : Int)).zip vs) fun p hp => (zip_txt p hp).1
      rw [zip_snd] at q
      rw [filter_key hk, p4]
      exact q.symm
  · rw [p2, List.length_map, p1.length_eq, List.length_zip, List.length_map, List.length_map]; omega
section
variable {X : Cx} {pins : List (Addr × Obj)} {σ : L2.St} {H : Hp} {s : Shared} {a : Addr} {Q : VK}
theorem sorted_len {xs : List Str} (I : Inv X pins σ H s) (hs : SqL X.K H a (xs.map V.str)) (hx : ∀ x ∈ xs, x.length ≤ 1000000) (q : ∀ p, H p = none → Q (.ref p) (upd H p (.lst ((isort lenLe xs).map V.str)))) :
    wpAny (model X.prog X.w) X.A (call (.builtin "sorted") [.ref a] [(Str.ofString "key", .builtin "len")]) (EP X pins σ Q) X.xe s := by
  obtain ⟨its, rv, hl, hz⟩ := I.list hs
  obtain ⟨hT, ex⟩ := txt_vals rv
  obtain ⟨m, hn, _⟩ := I.loc
  have h0n : ∀ b, (⟨#[], s.heap.life⟩ : Heap).get? b = none := fun b => Heap.get?_none_of_le (Nat.zero_le _)
  have F : Fr ⟨#[], s.heap.life⟩ X.env.locals s.heap m := ⟨hn, fun b o e => (by rw [h0n b] at e; cases e), Nat.zero_le _⟩
  have N : News ⟨#[], s.heap.life⟩ X.env.locals s.heap (olds s.heap X.env.locals) := fun p hp => ⟨(mem_olds.mp hp).1, (mem_olds.mp hp).2, h0n _⟩
  have hz2 : its.length ≤ sizeLine := by rw [← rv.length]; exact hz
  refine ksk_sortedSt (kz := (its.map txt).map fun x => (x.length : Int)) (b := false) (vs := its) F N hl.isList (by rw [List.length_map, List.length_map]) hz2 (ksk_s1 _ _) (fun _ => ksk_l1 _ _) (fun x => ksk_t4 "len" x) (fun i v k hv hk h tk own F' N' => ?_) fun D h' tk out c F' N' hlt ko => ?_
  · obtain ⟨x, t, rfl⟩ := hT v (List.mem_of_getElem? hv)
    rw [List.getElem?_map, List.getElem?_map, hv] at hk
    cases hk
    have hx1 : x.length ≤ 1000000 := hx x (by rw [← ex]; exact List.mem_map.mpr ⟨_, List.mem_of_getElem? hv, rfl⟩)
    refine len_str (by omega) ?_
    exact ⟨h, _, _, rfl, rfl, F', N'⟩
  · obtain ⟨oT, oe, ol⟩ := out_len hT ko
    rw [ex] at oe
    obtain ⟨gD, nL, _⟩ := N' (D, seqObj "list" out c) List.mem_cons_self
    have old : ∀ b o, b ≠ X.env.locals → s.heap.get? b = some o → h'.get? b = some o ∧ b < D := fun b o hb e => by
      have hm : (b, o) ∈ olds s.heap X.env.locals := mem_olds.mpr ⟨e, hb⟩
      exact ⟨(N' _ (List.mem_cons_of_mem _ hm)).1, hlt _ hm⟩
    have live : ∀ b u, H b = some u → b ≠ X.env.locals ∧ ∃ o, s.heap.get? b = some o := fun b u e => ⟨ne_of_some_none e I.free, objOk_get (I.hok b u e)⟩
    have hD : H D = none := by
      cases z : H D with
      | none => rfl
      | some u =>
        obtain ⟨n1, o, e⟩ := live D u z
        exact absurd (old D o n1 e).2 (Nat.lt_irrefl _)
    have hlen : ((isort lenLe xs).map V.str).length ≤ sizeLine := by
      rw [List.length_map, ← oe, List.length_map, ol]; exact hz2
    have nD : ∀ b u, H b = some u → b ≠ D := fun b u e z => by rw [z, hD] at e; cases e
    have J : Inv X pins σ (upd H D (.lst ((isort lenLe xs).map V.str))) { s with heap := h', gens := s.gens, drawn := s.drawn, toks := tk } := by
      refine I.step (ch := []) (fun b hb => absurd hb (by simp)) (fun b o n1 _ _ e _ => (old b o n1 e).1) (fun b o n1 _ _ e _ => ⟨o.slots, (old b o n1 e).1⟩) (fun b o _ e n => ?_) (fun b o _ e => ?_) (fun b ys e => by rw [upd_ne (nD b _ e)]; exact e) (fun b o u e => by rw [upd_ne (nD b _ e)]; exact e) (fun b ps e => ⟨#[], by rw [upd_ne (nD b _ e), e]; simp⟩) (fun m' hm' => ?_) (fun b u e => ?_) I.bare
      · by_cases z : b = X.env.locals
        · rw [z, upd_ne nL.symm, ← z]; exact n
        · rw [upd_ne (Nat.ne_of_lt (old b o z e).2)]; exact n
      · by_cases z : b = X.env.locals
        · obtain ⟨o', _, _, h1, _⟩ := F'.ns
          rw [z]; exact ⟨o', h1⟩
        · exact ⟨o, (old b o z e).1⟩
      · rw [hm'.eq_nsMap, ← hn.eq_nsMap]; exact F'.ns
      · by_cases z : b = D
        · subst z
          rw [upd_same] at e
          cases e
          exact ⟨hlen, out.toList, c, by rw [← oe]; exact vals_txt oT, by simpa using gD⟩
        · rw [upd_ne z] at e
          refine (I.hok b u e).stay (fun d v hd e2 => ?_) (fun d e2 => by rw [upd_ne (nD d _ e2)]; exact e2) fun d ys e2 => by rw [upd_ne (nD d _ e2)]; exact e2
          rcases hd with hd | hd
          · exact (old d v (by rw [hd]; exact (live b u e).1) e2).1
          · exact (old d v (live d _ hd).1 e2).1
    exact ⟨.ref D, _, J, rfl, q D hD⟩
end
end Dk
set_option exponentiation.threshold 256
namespace Dk
open PySem PySem.Spec PyProof.Rows L2
end Dk
set_option exponentiation.threshold 256
namespace Dk
open PySem PySem.Spec PyProof.Rows L2
end Dk
set_option exponentiation.threshold 256
namespace Dk
open PySem PySem.Spec PyProof.Rows L2
end Dk
set_option exponentiation.threshold 256
namespace Dk
open PySem PySem.Spec PyProof.Rows L2
variable [tabP : TabP]
variable {K : PySem.W.Frag}
def rSrtLen : List V → Hp → VK → Prop := fun xs H Q => ∃ (a : Addr) (ns : List Str), xs = [V.ref a] ∧ H a = some (.lst (ns.map V.str)) ∧ (∀ x ∈ ns, x.length ≤ 1000000) ∧ ∀ p, H p = none → Q (.ref p) (upd H p (.lst ((isort lenLe ns).map V.str)))
section
variable {X : Cx} {a : Expr} {ta : TA} {p p2 pos kp : Pos}
theorem pe_srtLen (hg : Gl X "sorted") (hm : X.mg "sorted" = none) (hg2 : Gl X "len") (hm2 : X.mg "len" = none) (ha : PA X [a] ta)
    (he : backTo pos (starEach [a] X.env) = (false, eval a X.env) :: backTo pos (starEach [] X.env) := by rfl) (hpl : (backTo pos (starEach [a] X.env)).any (·.1) = false := by rfl) :
    PE X (.Call (.Name "sorted" p) [a] [⟨some "key", .Name "len" p2, kp⟩] pos) (tCB rSrtLen ta) := by
  refine ⟨fun pins s σ H Q I h => ?_⟩
  refine wpAny_Call_Name_kw (ld_blt I hg hm PyProof.Rows.boot_sorted ?_)
  refine PyProof.Rows.callWith_kw (thn (ha.run pos pins s σ H _ I h) fun us s1 ⟨vs, H1, I1, r1, q1⟩ => ?_) he hpl
  refine PyProof.Rows.kws_cons (ld_blt I1 hg2 hm2 (u := .builtin "len") (by decide +kernel) (PyProof.Rows.kws_nil ?_))
  obtain ⟨b, ns, rfl, hl, hx, q⟩ := q1
  rw [Vals.ref1 r1]
  exact sorted_len I1 (.inl (.inl hl)) hx q
end
def sortLenD : List D → Option D
  | [.lst ds] => (strsD ds).bind fun ns => (okB (ns.all fun x => decide (x.length ≤ 1000000))).map fun _ => .lst ((isort lenLe ns).map .str)
  | _ => none
theorem opAN_srtLen : OpAN K rSrtLen sortLenD := fun {F H xs ds d Q} s b hd q => by
  unfold sortLenD at hd
  split at hd
  · rename_i es
    obtain ⟨ns, h1, hd⟩ := Option.bind_eq_some_iff.mp hd
    obtain ⟨_, h2, hd⟩ := Option.map_eq_some_iff.mp hd
    cases hd
    obtain ⟨x, rfl, b1⟩ := b.one
    obtain ⟨a, ys, rfl, ha, rx⟩ := b1.isLst s
    rw [strsD_iff h1] at rx
    have e := rx.ofStrs
    subst e
    exact ⟨a, ns, rfl, ha, fun x hx => of_decide_eq_true (List.all_eq_true.mp (okB_iff h2) x hx), fun p n => q p _ n ⟨s.free n, _, upd_same, RpL.strs _⟩⟩
  · cases hd
section
variable {X : Cx} {a : Expr} {ma : MA} {p p2 pos kp : Pos}
theorem d_srtLen (hm : X.mg "sorted" = none) (hm2 : X.mg "len" = none) (ha : PA X [a] (rA X.K ma)) (hg : Gl X "sorted" := by rfl) (hg2 : Gl X "len" := by rfl)
    (he : backTo pos (starEach [a] X.env) = (false, eval a X.env) :: backTo pos (starEach [] X.env) := by rfl) (hpl : (backTo pos (starEach [a] X.env)).any (·.1) = false := by rfl) :
    PE X (.Call (.Name "sorted" p) [a] [⟨some "key", .Name "len" p2, kp⟩] pos) (rN X.K (cbN sortLenD ma)) := toN (pe_srtLen hg hm hg2 hm2 ha he hpl) (sim_cbN opAN_srtLen sim_rA)
end
theorem fold_most : ∀ (n : Int) (r : List Int), r.foldl max n = mostI n r
  | n, [] => rfl
  | n, y :: r => by
    show r.foldl max (max n y) = mostI (if y > n then y else n) r
    rw [← fold_most (if y > n then y else n) r]
    have : max n y = if y > n then y else n := by split <;> omega
    rw [this]
def rMaxDef : List V → List V → Hp → VK → Prop := fun xs zs H Q => ∃ (a : Addr) (ns : List Int) (dv : V), xs = [V.ref a] ∧ zs = [dv] ∧ H a = some (.lst (ns.map V.int)) ∧ (ns = [] → Q dv H) ∧ ∀ n r, ns = n :: r → Q (.int (mostI n r)) H
theorem depth_ints : ∀ ns : List Int, PyData.depthAll (ns.map .int) = 0
  | [] => by unfold PyData.depthAll; rfl
  | n :: r => by
    rw [List.map_cons]
    unfold PyData.depthAll
    rw [depth_ints r]
    unfold PyData.depth
    rfl
theorem alike_ints (ns : List Int) : PySem.W.AlikeAll (ns.map PyData.int) := by
  constructor
  · intro x hx y hy
    obtain ⟨i, _, rfl⟩ := List.mem_map.mp hx
    obtain ⟨j, _, rfl⟩ := List.mem_map.mp hy
    rfl
  · intro x hx
    obtain ⟨i, _, rfl⟩ := List.mem_map.mp hx
    exact fun z => nomatch z
section
variable {X : Cx} {e : Expr} {p pos kp : Pos} {k : Nat}
theorem cr_maxDef (hr : Room k X.A) (hc : X.calm = true) : CallRK X (.builtin "max") [Str.ofString "default"] rMaxDef := by
  intro pins s σ H vs zs us ws Q I r rz h
  obtain ⟨a, ns, dv, rfl, rfl, ha, q0, q1⟩ := h
  rw [Vals.ref1 r]
  obtain ⟨u, rfl, ru⟩ := vals1 rz
  obtain ⟨its, rv, hl, hz⟩ := I.list (.inl (.inl ha))
  have hi := rv.ints
  refine PySem.W.max_list_default (I.ok.hd hc) hl.isList (PySem.W.readsAll_of_ints hi) (alike_ints ns) (by rw [depth_ints]; have := hr.un; omega) (fun e h' tk hk => ?_) fun y ys i v h' tk bs ey hv rd hk => ?_
  · have e : ns = [] := List.map_eq_nil_iff.mp e
    exact ⟨dv, H, I.kept hk, ru, q0 e⟩
  · cases ns with
    | nil => cases ey
    | cons n r =>
      cases ey
      rw [PySem.W.maxD_ints, fold_most] at rd
      cases rd
      exact ⟨.int _, H, I.kept hk, ⟨_, rfl⟩, q1 n r rfl⟩
end
def maxdM (ma : MA) (md : ME) : ME := fun e => (ma e).bind fun p => (md p.2).bind fun q => (rds q.2 p.1).bind fun ds => match ds with
  | [.lst xs] => (intsD xs).bind fun ns => match ns with
    | [] => some (q.1, q.2)
    | x :: r => some (.v (.int (mostI x r)), q.2)
  | _ => none
theorem sim_maxd {t : TA} {td : TE} {ma : MA} {md : ME} (ha : SimA K t ma) (hd : SimE K td md) : SimE K (tCKw rMaxDef t (tCons td tNil)) (maxdM ma md) := ⟨fun {F0 Gd ios F H σ e os l e' Q} W hm q => by
  unfold maxdM at hm
  obtain ⟨⟨ls, e1⟩, h1, hm⟩ := Option.bind_eq_some_iff.mp hm
  obtain ⟨⟨l2, e2⟩, h2, hm⟩ := Option.bind_eq_some_iff.mp hm
  obtain ⟨ds, h3, hm⟩ := Option.bind_eq_some_iff.mp hm
  refine ha.run W h1 fun F1 H1 os1 xs W1 s1 k1 => ?_
  refine hd.run W1 h2 fun F2 H2 os2 dv W2 s2 k2 => ?_
  have b := W2.bwL (k1.mono s2) h3
  show rMaxDef xs [dv] H2 Q
  split at hm
  · rename_i ys
    obtain ⟨ns, h4, hm⟩ := Option.bind_eq_some_iff.mp hm
    obtain ⟨x, rfl, b1⟩ := b.one
    obtain ⟨a, vs, rfl, ha2, r⟩ := b1.isLst W2.fh
    rw [intsD_iff h4] at r
    rw [r.ofInts] at ha2
    refine ⟨a, ns, dv, rfl, rfl, ha2, fun z => ?_, fun n r z => ?_⟩
    · subst z
      cases hm
      exact q F2 H2 os2 dv W2 (s1.trans s2) k2
    · subst z
      cases hm
      exact q F2 H2 os2 _ W2 (s1.trans s2) (show Rp K F2 _ _ from .int _)
  · cases hm⟩
section
variable {X : Cx} {a d : Expr} {ma : MA} {md : ME} {p pos kp : Pos} {k : Nat}
theorem d_maxd (hr : Room k X.A) (hc : X.calm = true) (hm : X.mg "max" = none) (ha : PA X [a] (rA X.K ma)) (hd : PE X d (rE X.K md)) (hg : Gl X "max" := by rfl)
    (he : backTo pos (starEach [a] X.env) = (false, eval a X.env) :: backTo pos (starEach [] X.env) := by rfl) (hpl : (backTo pos (starEach [a] X.env)).any (·.1) = false := by rfl) :
    PE X (.Call (.Name "max" p) [a] [⟨some "default", d, kp⟩] pos) (rE X.K (maxdM ma md)) := toE (pe_callBK (cr_maxDef hr hc) hg hm (by decide +kernel) ha (pk_cons hd pk_nil) (by decide) (by decide) he hpl) (sim_maxd sim_rA sim_rE)
end
end Dk
set_option exponentiation.threshold 256
namespace Dk
open PySem PySem.Spec PyProof.Rows L2
variable [tabP : TabP]
variable {K : PySem.W.Frag}
def HasMX (P : Program) (w : World) (K : PySem.W.Frag) (mg : Str → Option Value) (base : Heap) (n m : Str) (k : Nat) (ps : List Str) (j : Nat) (ks : List Str) (dvs : List V) (fm : MS) : Prop :=
  ∃ C f fd mv, PySem.W.nsIn K mainGlobals n = some (some (.ref C)) ∧ Cls K C ∧ Meth K C m f ∧ FnD P w K mg base k f fd ps fm ∧ KBn K fd ps j ks (fun us ws => us ++ (ws ++ mv)) (fun vs zs => vs ++ (zs ++ dvs))
def HasMXZ (P : Program) (w : World) (K : PySem.W.Frag) (mg : Str → Option Value) (base : Heap) (n m : Str) (k : Nat) (ps : List Str) (j : Nat) (ks : List Str) (dvs : List V) (fm : MX) : Prop :=
  ∃ C f fd mv, PySem.W.nsIn K mainGlobals n = some (some (.ref C)) ∧ Cls K C ∧ Meth K C m f ∧ FnZ P w K mg base k f fd ps fm ∧ KBn K fd ps j ks (fun us ws => us ++ (ws ++ mv)) (fun vs zs => vs ++ (zs ++ dvs))
section
variable {P : Program} {w : World} {mg : Str → Option Value} {base : Heap} {n x qual : Str} {st : Stmt} {N ps : List Str} {k a j nn : Nat} {kws : List (Str × V)}
theorem hasMX {m : MS} (At : MethAtK K n x qual st kws) (S : FnScope N ps (defScope st)) (ha : ps.length = a) (hn : N.length - ps.length = j) (hk : kws ≠ []) (ks : List Str) (ms : List (Str × V)) (hms : ∀ q ∈ ms, q ∈ kws)
    (h0 : ∀ (D : Addr) (doc pm : Value) (an : Option Addr) (cdv ct : Value) (us mv ws : List Value), us.length = nn → mv.length = ms.length → ws.length = ks.length →
      KwChain D ((ms.map (·.1)).zip mv) (bindArgs (PySem.W.fnOf x qual (defArgs st) (defBody st) (defScope st) .none (.ref D) doc pm an cdv ct) ⟨us, ks.zip ws⟩) (ps.zip (us ++ (ws ++ mv))))
    (hb : ∀ (f : Addr) (cdv : Value) (A : Around) (outer : List PySem.Env) (s : Shared) (H : Hp), Room k (A.deeper (envOfC qual (defScope st) s.heap.objs.size f cdv)) → (A.deeper (envOfC qual (defScope st) s.heap.objs.size f cdv)).guards = some [] →
      PSs (cxOf CX0 P w K mg base N qual (defScope st) f cdv A outer s H E0).nox (defBody st) (rS K m)) : HasMX P w K mg base n x (k + 1) ps nn ks (ms.map (·.2)) (fnM a j m) := by
  obtain ⟨C, f, fd, c1, c2, c3, Fu⟩ := At
  obtain ⟨mv, hb2⟩ := Fu.kbinds0 nn ks ms (fun us mv ws => us ++ (ws ++ mv)) hk hms (fun r1 r2 r3 => r1.append (r3.append r2)) h0
  exact ⟨C, f, fd, mv, c1, c2, c3, fnDk Fu S ha hn (hb f), hb2⟩
theorem hasMXZ {m : MX} (At : MethAtK K n x qual st kws) (S : FnScope N ps (defScope st)) (ha : ps.length = a) (hn : N.length - ps.length = j) (hk : kws ≠ []) (ks : List Str) (ms : List (Str × V)) (hms : ∀ q ∈ ms, q ∈ kws)
    (h0 : ∀ (D : Addr) (doc pm : Value) (an : Option Addr) (cdv ct : Value) (us mv ws : List Value), us.length = nn → mv.length = ms.length → ws.length = ks.length →
      KwChain D ((ms.map (·.1)).zip mv) (bindArgs (PySem.W.fnOf x qual (defArgs st) (defBody st) (defScope st) .none (.ref D) doc pm an cdv ct) ⟨us, ks.zip ws⟩) (ps.zip (us ++ (ws ++ mv))))
    (hb : ∀ f, BodyZ P w K mg base k N qual (defScope st) f (defBody st) m) : HasMXZ P w K mg base n x (k + 1) ps nn ks (ms.map (·.2)) (fnZ a j m) := by
  obtain ⟨C, f, fd, c1, c2, c3, Fu⟩ := At
  obtain ⟨mv, hb2⟩ := Fu.kbinds0 nn ks ms (fun us mv ws => us ++ (ws ++ mv)) hk hms (fun r1 r2 r3 => r1.append (r3.append r2)) h0
  exact ⟨C, f, fd, mv, c1, c2, c3, fnZk_of Fu S ha hn (hb f), hb2⟩
end
section
variable {X : Cx} {C f : Addr} {k j : Nat} {fd : FuncData} {ps ks : List Str} {m : MS} {dvs : List V} {mv : List Value} {W : WX}
theorem run_makeX {pins : List (Addr × Obj)} {σ : L2.St} {H : Hp} {s : Shared} {Q : VK} {us ws : List Value} {vs zs : List V} (M : Mk X.K C f) (F : FnD X.prog X.w X.K X.mg X.base k f fd ps m) (hr : Room (k + 1) X.A) (hgd : X.A.guards = some []) (hb : KBn X.K fd ps (j + 1) ks (fun us ws => us ++ (ws ++ mv)) (fun vs zs => vs ++ (zs ++ dvs)))
    (I : Inv X pins σ H s) (r : Vals vs us) (rz : Vals zs ws) (hl : vs.length = j) (hz : zs.length = ks.length)
    (h : ∀ x dx, H x = none → H dx = none → dx ≠ x → spD X.K m (.ref x :: (vs ++ (zs ++ dvs))) (upd (upd H dx (.own x)) x (.ins C dx [])) (fun v H2 => v = .non ∧ Q (.ref x) H2)) :
    wpAny (model X.prog X.w) X.A (call (.ref C) us (ks.zip ws)) (EP X pins σ Q) X.xe s := by
  have hq := h (s.heap.objs.size + 1) s.heap.objs.size (I.hok.fresh (Nat.le_succ _)) (I.hok.fresh (Nat.le_refl _)) (Nat.ne_of_lt (Nat.lt_succ_self _))
  have I2 := Inv.made (C := C) I
  have r2 : Vals (V.ref (s.heap.objs.size + 1) :: (vs ++ (zs ++ dvs))) ((Value.ref (s.heap.objs.size + 1) :: us) ++ (ws ++ mv)) := hb.rel (vs := V.ref (s.heap.objs.size + 1) :: vs) (us := Value.ref (s.heap.objs.size + 1) :: us) (.cons rfl r) rz
  have n1 : (Value.ref (s.heap.objs.size + 1) :: us).length = j + 1 := by rw [List.length_cons, ← r.length, hl]
  have n2 : ws.length = ks.length := by rw [← rz.length, hz]
  refine wpAny_call (make_map (f := f) I.kIn M.makes M.init (beq_iff_eq.mp M.fn) (codeAny_mono (F.run _ X.stack _ _ ⟨Value.ref (s.heap.objs.size + 1) :: us, ks.zip ws⟩ ((Value.ref (s.heap.objs.size + 1) :: us) ++ (ws ++ mv)) _ _ (hr.make C us (ks.zip ws)) hgd
    (I2.env0.make C us (ks.zip ws)) (hb.to _ _ ws I2.kIn n1 n2) r2 hq) fun r s' hq' => ?_))
  cases r with
  | error e => exact False.elim hq'
  | ok fl =>
    cases fl with
    | ret u =>
      obtain ⟨v, H', I3, rv, ev, q3⟩ := I2.after hq'
      subst ev
      exact ⟨rv, ⟨V.ref (s.heap.objs.size + 1), H', I3, rfl, q3⟩⟩
    | next => exact False.elim hq'
    | brk => exact False.elim hq'
    | cont => exact False.elim hq'
theorem run_makeXZ {m : MX} {pins : List (Addr × Obj)} {σ : L2.St} {H : Hp} {s : Shared} {Q : VK} {us ws : List Value} {vs zs : List V} (M : Mk X.K C f) (F : FnZ X.prog X.w X.K X.mg X.base k f fd ps m) (tk : Pass X W) (hr : Room (k + 1) X.A) (hgd : X.A.guards = some []) (hb : KBn X.K fd ps (j + 1) ks (fun us ws => us ++ (ws ++ mv)) (fun vs zs => vs ++ (zs ++ dvs)))
    (I : Inv X pins σ H s) (r : Vals vs us) (rz : Vals zs ws) (hl : vs.length = j) (hz : zs.length = ks.length)
    (h : ∀ x dx, H x = none → H dx = none → dx ≠ x → spZ X.K m (.ref x :: (vs ++ (zs ++ dvs))) (upd (upd H dx (.own x)) x (.ins C dx [])) fun cls d H2 => W cls d σ H2) :
    wpAny (model X.prog X.w) X.A (call (.ref C) us (ks.zip ws)) (EP X pins σ Q) X.xe s := by
  have hq := h (s.heap.objs.size + 1) s.heap.objs.size (I.hok.fresh (Nat.le_succ _)) (I.hok.fresh (Nat.le_refl _)) (Nat.ne_of_lt (Nat.lt_succ_self _))
  have I2 := Inv.made (C := C) I
  have r2 : Vals (V.ref (s.heap.objs.size + 1) :: (vs ++ (zs ++ dvs))) ((Value.ref (s.heap.objs.size + 1) :: us) ++ (ws ++ mv)) := hb.rel (vs := V.ref (s.heap.objs.size + 1) :: vs) (us := Value.ref (s.heap.objs.size + 1) :: us) (.cons rfl r) rz
  have n1 : (Value.ref (s.heap.objs.size + 1) :: us).length = j + 1 := by rw [List.length_cons, ← r.length, hl]
  have n2 : ws.length = ks.length := by rw [← rz.length, hz]
  refine wpAny_call (make_map (f := f) I.kIn M.makes M.init (beq_iff_eq.mp M.fn) (codeAny_mono (F.run _ X.stack _ _ ⟨Value.ref (s.heap.objs.size + 1) :: us, ks.zip ws⟩ ((Value.ref (s.heap.objs.size + 1) :: us) ++ (ws ++ mv)) _ _ (hr.make C us (ks.zip ws)) hgd
    (I2.env0.make C us (ks.zip ws)) (hb.to _ _ ws I2.kIn n1 n2) r2 hq) fun r s' hq' => ?_))
  cases r with
  | error e => exact tk σ pins _ _ e s' I2 hq'
  | ok fl =>
    cases fl with
    | ret u => obtain ⟨_, _, _, _, _, _, _, no⟩ := hq'; exact no.elim
    | next => exact False.elim hq'
    | brk => exact False.elim hq'
    | cont => exact False.elim hq'
end
section
variable {X : Cx} {e : Expr} {es : List Expr} {pos p : Pos} {k j : Nat} {x : Str} {mr mk : MA} {ps ks : List Str} {kws : List Keyword} {dvs : List V} {ds : List D} {W : WX}
theorem d_makeX {fm : MS} (F : HasMX X.prog X.w X.K X.mg X.base x "__init__" k ps (j + 1) ks dvs fm) (hmk : MakeAt X.K X.mg x) (hr : Room (k + 1) X.A) (hgd : X.A.guards = some []) (hds : ∀ F : Hp, RpL X.K F dvs ds) (ha : PA X (e :: es) (rA X.K mr)) (hkw : PK X kws (rA X.K mk)) (hl : ∀ e ls e', mr e = some (ls, e') → ls.length = j) (hlk : ∀ e ls e', mk e = some (ls, e') → ls.length = ks.length) (hg : Gl X x := by rfl)
    (hall : (backToKw pos (keywordEach kws X.env)).all (·.1.isSome) = true := by rfl) (hks : (backToKw pos (keywordEach kws X.env)).filterMap (·.1) = ks := by rfl)
    (hdb : (x == ("__debug__" : Str)) = false := by decide) (he : starEach (e :: es) X.env = (false, eval e X.env) :: starEach es X.env := by rfl)
    (hpl : ((backTo pos (starEach (e :: es) X.env)).any (·.1) || (backToKw pos (keywordEach kws X.env)).any (·.1.isNone)) = false := by rfl) :
    PE X (.Call (.Name x p) (e :: es) kws pos) (rE X.K (makM x fm (apA mr (apA mk (csA ds))))) := by
  obtain ⟨C, f, fd, mv, h1, h2, h3, F, hb⟩ := F
  obtain ⟨C', c1, c2, c3, c4⟩ := hmk
  cases nsC h1 c1
  have M : Mk X.K C f := ⟨c3, h3.at_, h3.fn, c4⟩
  refine toE (t := tMakeD X.K C fm (tAp (rA X.K mr) (tAp (rA X.K mk) (tVs dvs)))) ⟨fun pins s σ H Q I h => ?_⟩ (sim_make h1 (sim_ap sim_rA (sim_ap sim_rA (sim_vs hds))))
  refine wpAny_Call_Name_kw (ld_glob I hg c2 ?_ hdb)
  refine PySem.W.callWith_KW (h₀ := X.base) I.ok.mod.kin M.kp hall (thn (ha.run pos pins s σ H _ I (rA_len hl h)) fun us s1 ⟨vs, H1, I1, r, hl1, q⟩ => ?_) hpl he
  refine thn (hkw.run pos pins s1 σ H1 _ I1 (rA_len hlk q)) fun ws s2 ⟨zs, H2, I2, rz, hl2, q2⟩ => ⟨I2.kIn, ?_⟩
  rw [hks]
  exact run_makeX M F hr hgd hb I2 r rz hl1 hl2 q2
/-- C(e, ..): all keyword-only parameters lack -/
theorem z_makeX0 {fm : MX} (F : HasMXZ X.prog X.w X.K X.mg X.base x "__init__" k ps (j + 1) [] dvs fm) (hmk : MakeAt X.K X.mg x) (tk : Pass X W) (hr : Room (k + 1) X.A) (hgd : X.A.guards = some []) (hds : ∀ F : Hp, RpL X.K F dvs ds) (ha : PA X (e :: es) (rA X.K mr)) (hl : ∀ e ls e', mr e = some (ls, e') → ls.length = j) (hg : Gl X x := by rfl)
    (hdb : (x == ("__debug__" : Str)) = false := by decide) (he : starEach (e :: es) X.env = (false, eval e X.env) :: starEach es X.env := by rfl) (hpl : (backTo pos (starEach es X.env)).any (·.1) = false := by rfl) :
    PE X (.Call (.Name x p) (e :: es) [] pos) (zE X.K W (makZ x fm (apA mr (csA ds)))) := by
  obtain ⟨C, f, fd, mv, h1, h2, h3, F, hb⟩ := F
  obtain ⟨C', c1, c2, c3, c4⟩ := hmk
  cases nsC h1 c1
  have M : Mk X.K C f := ⟨c3, h3.at_, h3.fn, c4⟩
  refine impE (t := tMakeZ X.K W C fm (tAp (rA X.K mr) (tVs dvs))) ⟨fun pins s σ H Q I h => ?_⟩ fun σ H Q q => ?_
  · refine wpAny_Call_Name_kw (ld_glob I hg c2 ?_ hdb)
    refine PySem.W.callWith_K (h₀ := X.base) I.ok.mod.kin M.kp (thn (ha.run pos pins s σ H _ I (rA_len hl h)) fun us s1 ⟨vs, H1, I1, r, hl1, q⟩ => ⟨I1.kIn, ?_⟩) he hpl
    exact run_makeXZ (ws := []) (zs := []) (ks := []) M F tk hr hgd hb I1 r .nil hl1 rfl q
  · obtain ⟨F0, Gd, ios, F1, e0, os, ls, e1, Wd, hm, k⟩ := rd_makZ h1 q
    exact (sim_ap sim_rA (sim_vs hds)).run Wd hm k
end
section
variable {P : Program} {w : World} {mg : Str → Option Value} {base : Heap}
/-- what a def's body means -/
def BodyD (P : Program) (w : World) (K : PySem.W.Frag) (mg : Str → Option Value) (base : Heap) (k : Nat) (N : List Str) (qual : Str) (st : Stmt) (m : MS) : Prop :=
  ∀ (f : Addr) (cdv : Value) (A : Around) (outer : List PySem.Env) (s : Shared) (H : Hp), Room k (A.deeper (envOfC qual (defScope st) s.heap.objs.size f cdv)) → (A.deeper (envOfC qual (defScope st) s.heap.objs.size f cdv)).guards = some [] →
      PSs (cxOf CX0 P w K mg base N qual (defScope st) f cdv A outer s H E0).nox (defBody st) (rS K m)
theorem funDs_of {x q : Str} {st : Stmt} {f D : Addr} {kws : List (Str × V)} {od an : Option Addr} {sl : Array (Option Value)} {oc dc pm cd ct : Value}
    (l : K.lookup f = some ⟨oc, od, .func (PySem.W.fnOf x q (defArgs st) (defBody st) (defScope st) .none (.ref D) dc pm an cd ct), sl⟩) (c : PySem.W.codeIn K cd q = true) (k : PySem.W.keepIn K (.ref f) = true) (hq : ∀ p ∈ kws, ∃ u, PySem.W.nsIn K D p.1 = some (some u) ∧ RelV p.2 u) : ∃ fd, FunD K x q (defArgs st) (defBody st) (defScope st) [] kws f fd :=
  ⟨_, ⟨⟨oc, od, .none, .ref D, dc, pm, an, cd, ct, sl, rfl, l, c, Or.inl ⟨rfl, rfl⟩, Or.inr ⟨D, rfl, hq⟩⟩, k⟩⟩
end
def orI (m1 m2 : MI) : MI := fun e => match m1 e with
  | some r => some r
  | none => m2 e
theorem i_orI {X : Cx} {tg e : Expr} {m1 m2 : MI} (h1 : PI X tg e (rIt X.K m1)) (h2 : PI X tg e (rIt X.K m2)) : PI X tg e (rIt X.K (orI m1 m2)) := ⟨fun pins s σ H R I q => by
  obtain ⟨F0, Gd, ios, F, e0, os, l, e', W, hm, k⟩ := q
  unfold orI at hm
  split at hm
  · rename_i r hr
    cases hm
    exact h1.run pins s σ H R I ⟨F0, Gd, ios, F, e0, os, l, e', W, hr, k⟩
  · exact h2.run pins s σ H R I ⟨F0, Gd, ios, F, e0, os, l, e', W, hm, k⟩⟩
end Dk
set_option exponentiation.threshold 256
namespace Dk
open PySem PySem.Spec PyProof.Rows L2
variable [tabP : TabP]
variable {K : PySem.W.Frag}
theorem sm_lockT {F : Hp} {a : Addr} {od : Obj} {kvs : List (List Key × V)} (h : F a = some (.dT kvs)) : Sm F (upd F a (.frz od (.dT kvs))) := fun b o e => by
  by_cases y : b = a
  · subst y
    rw [h] at e; cases e
    exact .inr ⟨od, trivial, upd_same⟩
  · rw [upd_ne y]; exact .inl e
theorem WOk.lockT {F0 Gd F H : Hp} {ios os : List (Option Addr)} {σ : L2.St} {e : Env} {a : Addr} {od : Obj} {kvs : List (List Key × V)} (W : WOk K F0 Gd ios F H σ e os) (h : F a = some (.dT kvs)) : WOk K F0 Gd ios (upd F a (.frz od (.dT kvs))) (upd H a (.frz od (.dT kvs))) σ e os := by
  have s := sm_lockT (od := od) h
  refine ⟨same_upd2 W.fh, W.f0.trans s, fun b o q => ?_, W.le, W.lo, fun j t q => ?_, W.ds, W.io, ⟨fun b xs q => ?_, fun b ps q => ?_, tabs_upd W.tp.tb fun u z => by rw [W.fh _ _ h] at z; cases z; exact ⟨fun _ z => (nomatch z), fun _ z => (nomatch z)⟩⟩, W.ng⟩
  · obtain ⟨h1, h2, h3⟩ := W.gd b o q
    have y : b ≠ a := fun y => by subst y; rw [h] at h2; cases h2
    exact ⟨by rw [upd_ne y]; exact h1, by rw [upd_ne y]; exact h2, h3⟩
  · have z := W.sl j t q
    have keep : ∀ p d, Ob K F H p d → Ob K (upd F a (.frz od (.dT kvs))) (upd H a (.frz od (.dT kvs))) p d := fun p d ob => by
      have y : p ≠ a := fun y => by subst y; have := ob.1; rw [h] at this; cases this
      exact ob.keep s (upd_ne y) (by rw [upd_ne y]; exact ob.1)
    cases t with
    | no => exact z
    | fn kf =>
      obtain ⟨a1, b1, c, m, r⟩ := z
      have ne : (TabP.fns kf).fc ≠ a := fun y => by rw [y, h] at m; cases m
      exact ⟨a1, b1, by rw [upd_ne ne]; exact c, by rw [upd_ne ne]; exact m, r.mono s⟩
    | fz c => obtain ⟨a1, y, b1, r⟩ := z; exact ⟨a1, y, b1, r.mono s⟩
    | ow c => obtain ⟨b, a1, b1, ob⟩ := z; exact ⟨b, a1, b1, keep _ _ ob⟩
    | io c => obtain ⟨b, a1, b1, ob⟩ := z; exact ⟨b, a1, b1, keep _ _ ob⟩
  · by_cases y : b = a
    · subst y; rw [upd_same] at q; cases q
    · rw [upd_ne y] at q ⊢; exact W.tp.tup b xs q
  · by_cases y : b = a
    · subst y; rw [upd_same] at q; cases q; exact ⟨fun _ z => (nomatch z), fun _ z => (nomatch z)⟩
    · rw [upd_ne y] at q; exact W.tp.nt b ps q
theorem RpT.get {F : Hp} : ∀ {kvs : List (List Key × V)} {es : List (List Key × D)} {i : Nat} {p : List Key × D}, RpT K F kvs es → es[i]? = some p → ∃ v, kvs[i]? = some (p.1, v) ∧ Rp K F v p.2
  | _, _, i, p, .nil, e => by simp at e
  | _, _, 0, p, .cons h _, e => by simp at e; subst e; exact ⟨_, rfl, h⟩
  | _, _, i + 1, p, .cons _ r, e => by
    obtain ⟨v, h1, h2⟩ := RpT.get (i := i) (p := p) r (by simpa using e)
    exact ⟨v, by simpa using h1, h2⟩
theorem lk_runT {t : TE} {m : ME} (h : SimE K t m) {F0 Gd : Hp} {ios : List (Option Addr)} {F H : Hp} {σ : L2.St} {e : Env} {os : List (Option Addr)} {l : L} {e1 e2 : Env} {es : List (List Key × D)} {R : V → Hp → Prop} (W : WOk K F0 Gd ios F H σ e os) (h1 : m e = some (l, e1)) (h2 : tk e1 l = some (.dit es, e2))
    (q : ∀ F' H' os' a o kvs, WOk K F0 Gd ios F' H' σ e2 os' → Sm F F' → F' a = some (.frz o (.dT kvs)) → RpT K F' kvs es → R (.ref a) H') : tLk t σ H R := by
  refine h.run W h1 fun F1 H1 os1 x W1 s1 k1 => ?_
  obtain ⟨F2, os2, W2, s2, r⟩ := W1.take k1 h2
  cases r with
  | @dit a kvs _ hr rk =>
    rcases hr with hr | ⟨o, hr⟩
    · exact .inr ⟨a, _, W2.fh _ _ hr, trivial, fun od => q _ _ os2 a od kvs (W2.lockT hr) ((s1.trans s2).trans (sm_lockT hr)) upd_same (rk.mono (sm_lockT hr))⟩
    · exact .inl (q F2 H1 os2 a o kvs W2 (s1.trans s2) hr rk)
section
variable {X : Cx} {pins : List (Addr × Obj)} {σ : L2.St} {H : Hp} {s : Shared} {d : Addr} {o : Obj}
theorem frzT2 {kvs : List (List Key × V)} (I : Inv X pins σ H s) (h : H d = some (.frz o (.dT kvs))) :
    (d == sysModules) = false ∧ s.heap.get? d = some o ∧ o.ExactDict ∧ ∃ (es : Array DictEntry) (ep : Nat), o.data = .dict es ep ∧ es.size = kvs.length ∧
      ∀ (i : Nat) (k : List Key) (v : V), kvs[i]? = some (k, v) → ∃ (en : DictEntry) (q : Addr), es[i]? = some en ∧ en.key = .ref q ∧ H q = some (.tup (k.map kV)) ∧ RelV v en.val := by
  obtain ⟨hd, z, hs, xs, pr, o', es, ep, ho, hx, hdt, he, _⟩ := I.hok d _ h
  rw [hd] at ho
  cases ho
  refine ⟨hs, hd, hx, es, ep, hdt, ?_, fun i k v e => ?_⟩
  · have l1 : es.size = xs.length := size_of_entries he
    have l2 : kvs.length = xs.length := Paired.length pr
    omega
  · obtain ⟨b, hb, e1, e2, e3⟩ := paired_get pr e
    have q := entry_at he i
    rw [hb] at q
    exact ⟨_, b.2.1, q, rfl, e2, e3⟩
end
def ItqK (d : Addr) (o : Obj) (kvs : List (List Key × V)) (es : Array DictEntry) : It :=
  ⟨fun i H => H d = some (.frz o (.dT kvs)) ∧ i < kvs.length, fun i H x H' => H' = H ∧ ∃ en q, es[i]? = some en ∧ en.key = .ref q ∧ x = .ref q, fun i H => H d = some (.frz o (.dT kvs)) ∧ kvs.length ≤ i⟩
def ItqV (d : Addr) (o : Obj) (kvs : List (List Key × V)) : It :=
  ⟨fun i H => H d = some (.frz o (.dT kvs)) ∧ i < kvs.length, fun i H x H' => H' = H ∧ ∃ k, kvs[i]? = some (k, x), fun i H => H d = some (.frz o (.dT kvs)) ∧ kvs.length ≤ i⟩
def ItqI (d : Addr) (o : Obj) (kvs : List (List Key × V)) (es : Array DictEntry) : It :=
  ⟨fun i H => H d = some (.frz o (.dT kvs)) ∧ i < kvs.length, fun i H x H' => ∃ T en q k v, es[i]? = some en ∧ en.key = .ref q ∧ kvs[i]? = some (k, v) ∧ x = .ref T ∧ H T = none ∧ H' = upd H T (.tup [.ref q, v]), fun i H => H d = some (.frz o (.dT kvs)) ∧ kvs.length ≤ i⟩
section
variable {P : Program} {w : World} {K : PySem.W.Frag} {tg : Expr} {d : Addr} {o : Obj} {es : Array DictEntry} {ep : Nat}
theorem raw_of {X : Cx} {pins : List (Addr × Obj)} {σ : L2.St} {H : Hp} {s : Shared} (hgd : s.heap.get? d = some o) (hx : o.ExactDict) (hod : o.data = .dict es ep) : PySem.Heap.DictRaw s.heap d es ep := ⟨o, hgd, hx, hod⟩
theorem turn_keysQ {kvs : List (List Key × V)} (it : Addr) (hod : o.data = .dict es ep) : Turn P w K tg (ItqK d o kvs es) [it] it (fun i h => h.IsKeyIter it d i kvs.length ep) where
  mem := by simp
  obj := fun i h st b hb => by
    have e : b = it := by simpa using hb
    subst e
    obtain ⟨oi, e, c, dd⟩ := st
    exact ⟨oi, e, fun v z => by rw [dd] at z; cases z⟩
  keep := fun i h h' st k => st.at fun oi e => k it (by simp) oi e
  item := by
    intro X hP hw hK hc i pins s σ H E I hf st hg
    subst hP hw hK
    obtain ⟨hd, hi⟩ := hg
    obtain ⟨f0, f1, f2, f3, f4, f5⟩ := hf it (by simp)
    obtain ⟨hs, hgd, hx, es', ep', hdt, hsz, ent⟩ := frzT2 I hd
    obtain ⟨rfl, rfl⟩ := dict_ep hod hdt
    obtain ⟨⟨k, v⟩, hkv⟩ : ∃ p, kvs[i]? = some p := ⟨kvs[i], List.getElem?_eq_getElem hi⟩
    obtain ⟨en, q, hen, hkey, hq, _⟩ := ent i k v hkv
    refine next_key_item st hgd hdt hsz hen fun h' st' sb => ?_
    have I1 : Inv X pins σ H { s with heap := h' } := I.turned (t' := s.toks) (fun b ob hb e => (sb.2 b hb).trans e) f0 f1 f3 f4 f5
    obtain ⟨oi, e, c, dd⟩ := id st'
    exact ⟨en.key, rfl, go_of (s := { s with heap := h' }) e c dd (by decide) ⟨.ref q, H, I1, hkey, ⟨rfl, en, q, hen, hkey, rfl⟩, st', fun b hb => (hf b hb).1⟩⟩
  done := by
    intro X hP hw hK hc i pins s σ H E I hf st hg
    subst hP hw hK
    obtain ⟨hd, hi⟩ := hg
    obtain ⟨f0, f1, f2, f3, f4, f5⟩ := hf it (by simp)
    obtain ⟨hs, hgd, hx, es', ep', hdt, hsz, ent⟩ := frzT2 I hd
    obtain ⟨rfl, rfl⟩ := dict_ep hod hdt
    exact next_key_end (I.ok.hd hc) st hgd hdt hsz hi fun h' eb => ⟨rfl, I.turned (t' := s.toks) (fun b ob hb e => eb b ob hb e) f0 f1 f3 f4 f5⟩
  self := fun A i s Q E st h => by
    refine wpAny_pyIter_slot st.typeIs F.slot_dict_keyiterator_iter (wpAny_call_entry F.slot_dict_keyiterator_iter st.typeIs F.entry_dict_keyiterator_iter ?_ (F.args_dict_keyiterator_iter_1 _))
    show wpAny _ _ (ret (.ref it)) _ _ s
    exact wpAny_pure ⟨_, rfl, "dict_keyiterator", _, st.typeIs, F.slot_dict_keyiterator_next.lookup, h⟩
theorem turn_valsQ {kvs : List (List Key × V)} (it : Addr) (hod : o.data = .dict es ep) : Turn P w K tg (ItqV d o kvs) [it] it (fun i h => h.IsValIter it d i es.size ep) where
  mem := by simp
  obj := fun i h st b hb => by
    have e : b = it := by simpa using hb
    subst e
    obtain ⟨oi, e, c, dd⟩ := st
    exact ⟨oi, e, fun v z => by rw [dd] at z; cases z⟩
  keep := fun i h h' st k => st.at fun oi e => k it (by simp) oi e
  item := by
    intro X hP hw hK hc i pins s σ H E I hf st hg
    subst hP hw hK
    obtain ⟨hd, hi⟩ := hg
    obtain ⟨f0, f1, f2, f3, f4, f5⟩ := hf it (by simp)
    obtain ⟨hs, hgd, hx, es', ep', hdt, hsz, ent⟩ := frzT2 I hd
    obtain ⟨rfl, rfl⟩ := dict_ep hod hdt
    obtain ⟨⟨k, v⟩, hkv⟩ : ∃ p, kvs[i]? = some p := ⟨kvs[i], List.getElem?_eq_getElem hi⟩
    obtain ⟨en, q, hen, hkey, hq, rv⟩ := ent i k v hkv
    have hlt : i < es'.size := by rw [hsz]; exact hi
    have e1 : es'[i] = en := by rw [Array.getElem?_eq_getElem hlt] at hen; exact Option.some.inj hen
    refine PySem.wpAny_pyNext_values_item_raw st (raw_of (X := X) (pins := pins) (σ := σ) (H := H) hgd hx hdt) hlt fun h' st' sb => ?_
    have I1 : Inv X pins σ H { s with heap := h' } := I.turned (t' := s.toks) (fun b ob hb e => (sb.2 b hb).trans e) f0 f1 f3 f4 f5
    obtain ⟨oi, e, c, dd⟩ := id st'
    exact ⟨_, rfl, go_of (s := { s with heap := h' }) e c dd (by decide) ⟨v, H, I1, by rw [e1]; exact rv, ⟨rfl, k, hkv⟩, st', fun b hb => (hf b hb).1⟩⟩
  done := by
    intro X hP hw hK hc i pins s σ H E I hf st hg
    subst hP hw hK
    obtain ⟨hd, hi⟩ := hg
    obtain ⟨f0, f1, f2, f3, f4, f5⟩ := hf it (by simp)
    obtain ⟨hs, hgd, hx, es', ep', hdt, hsz, ent⟩ := frzT2 I hd
    obtain ⟨rfl, rfl⟩ := dict_ep hod hdt
    exact PySem.wpAny_pyNext_values_end_raw (I.ok.hd hc) st (raw_of (X := X) (pins := pins) (σ := σ) (H := H) hgd hx hdt) (by rw [hsz]; exact hi) fun h' eb => ⟨rfl, I.turned (t' := s.toks) (fun b ob hb e => eb b ob hb e) f0 f1 f3 f4 f5⟩
  self := fun A i s Q E st h => wpAny_pyIter_valiter st h
theorem turn_itemsQ {kvs : List (List Key × V)} {elts : List Expr} {kk : Nat} {tpos : Pos} (it : Addr) (hod : o.data = .dict es ep) :
    Turn P w K (.Tuple elts kk tpos) (ItqI d o kvs es) [it] it (fun i h => ∃ ok ov, IsItemIter h it d i es.size ep ok ov) where
  mem := by simp
  obj := fun i h st b hb => by
    have e : b = it := by simpa using hb
    subst e
    obtain ⟨ok, ov, e⟩ := st
    exact ⟨_, e, fun v z => nomatch z⟩
  keep := fun i h h' st k => let ⟨ok, ov, e⟩ := st; ⟨ok, ov, k it (by simp) _ e⟩
  item := by
    intro X hP hw hK hc i pins s σ H E I hf st hg
    subst hP hw hK
    obtain ⟨hd, hi⟩ := hg
    obtain ⟨hs, hgd, hx, es', ep', hdt, hsz, ent⟩ := frzT2 I hd
    obtain ⟨rfl, rfl⟩ := dict_ep hod hdt
    obtain ⟨⟨k, v⟩, hkv⟩ : ∃ p, kvs[i]? = some p := ⟨kvs[i], List.getElem?_eq_getElem hi⟩
    obtain ⟨en, q, hen, hkey, hq, rv⟩ := ent i k v hkv
    have hlt' : i < es'.size := by rw [hsz]; exact hi
    have e1 : es'[i] = en := by rw [Array.getElem?_eq_getElem hlt'] at hen; exact Option.some.inj hen
    obtain ⟨ok, ov, he⟩ := st
    have hlt : it < s.heap.objs.size := Heap.lt_size he
    refine PySem.wpAny_pyNext_items_item_raw he (raw_of (X := X) (pins := pins) (σ := σ) (H := H) hgd hx hdt) hlt' fun h' ho hT hz hk => ?_
    refine ⟨_, rfl, wpAny_letOwnedTupleGo_items (s := { s with heap := h' }) ho fun h'' he' sb => ?_⟩
    have hT2 : h''.get? s.heap.objs.size = some { cls := .type "tuple", data := .seq #[es'[i].key, es'[i].val] } := (sb.2 _ (Nat.ne_of_gt hlt)).trans hT
    have new : ObjOk X.prog X.w (upd H s.heap.objs.size (.tup [.ref q, v])) h'' s.heap.objs.size (.tup [.ref q, v]) :=
      ⟨by show 2 ≤ sizeLine; decide, [es'[i].key, es'[i].val], .cons (by rw [e1]; exact hkey) (.cons (by rw [e1]; exact rv) .nil), ⟨_, hT2, rfl, _, rfl⟩⟩
    have I1 : Inv X pins σ (upd H s.heap.objs.size (.tup [.ref q, v])) { s with heap := h'' } :=
      I.turnedNew (t' := s.toks) (ch := [it]) (fun b ob hb e => (sb.2 b (by simpa using hb)).trans (hk b ob (by simpa using hb) e)) hf (Nat.le_refl _) new
    refine ⟨.ref s.heap.objs.size, _, I1, rfl, ⟨_, en, q, k, v, hen, hkey, hkv, rfl, I.hok.fresh (Nat.le_refl _), rfl⟩, ⟨_, _, he'⟩, fun b hb => ?_⟩
    have e : b = it := by simpa using hb
    rw [e, upd_ne (Nat.ne_of_lt hlt)]
    exact (hf it (by simp)).1
  done := by
    intro X hP hw hK hc i pins s σ H E I hf st hg
    subst hP hw hK
    obtain ⟨hd, hi⟩ := hg
    obtain ⟨f0, f1, f2, f3, f4, f5⟩ := hf it (by simp)
    obtain ⟨hs, hgd, hx, es', ep', hdt, hsz, ent⟩ := frzT2 I hd
    obtain ⟨rfl, rfl⟩ := dict_ep hod hdt
    obtain ⟨ok, ov, he⟩ := st
    exact PySem.wpAny_pyNext_items_end_raw (I.ok.hd hc) he (raw_of (X := X) (pins := pins) (σ := σ) (H := H) hgd hx hdt) (by rw [hsz]; exact hi) fun h' eb => ⟨rfl, I.turned (t' := s.toks) (fun b ob hb e => eb b ob hb e) f0 f1 f3 f4 f5⟩
  self := fun A i s Q E st h => let ⟨_, _, e⟩ := st; PySem.W.kcp_self e h
end
/-- the keys' own tuples -/
def KeysAt (H : Hp) (kvs : List (List Key × V)) (es : Array DictEntry) : Prop := ∀ (i : Nat) (k : List Key) (v : V), kvs[i]? = some (k, v) → ∃ en q, es[i]? = some en ∧ en.key = .ref q ∧ H q = some (.tup (k.map kV))
def iKeysQ (td : TE) : L2.TI := fun σ H R => td σ H fun x H1 => ∃ d o kvs, x = .ref d ∧ H1 d = some (.frz o (.dT kvs)) ∧ ∀ es, KeysAt H1 kvs es → R (ItqK d o kvs es) H1
def iValsQ (td : TE) : L2.TI := fun σ H R => td σ H fun x H1 => ∃ d o kvs, x = .ref d ∧ H1 d = some (.frz o (.dT kvs)) ∧ R (ItqV d o kvs) H1
def iItemsQ (td : TE) : L2.TI := fun σ H R => td σ H fun x H1 => ∃ d o kvs, x = .ref d ∧ H1 d = some (.frz o (.dT kvs)) ∧ ∀ es, KeysAt H1 kvs es → R (ItqI d o kvs es) H1
section
variable {X : Cx} {tg e : Expr} {td : TE} {apos cpos : Pos}
theorem pi_keysQ (he : PE X e td) : PI X tg e (iKeysQ td) := by
  refine ⟨fun pins s σ H R I h => ?_⟩
  refine thn (he.run pins s σ H _ I h) fun u s1 ⟨x, H1, I1, rx, d, o, kvs, ex, hd, q⟩ => ?_
  subst ex
  obtain rfl : u = Value.ref d := rx
  obtain ⟨hs, hgd, hx, es, ep, hdt, hsz, ent⟩ := frzT2 I1 hd
  refine iter_keys hs hgd hx hdt (pi_one (tk := s1.toks) I1 _ (turn_keysQ _ hdt) ⟨_, Heap.get?_push_size _ rfl, rfl, ?_⟩ (q es fun i k v z => let ⟨en, qa, h1, h2, h3, _⟩ := ent i k v z; ⟨en, qa, h1, h2, h3⟩))
  rw [hsz] <;> rfl
theorem pi_valuesQ (he : PE X e td) (hbase : attributeBase e "values" X.env (eval e X.env) = eval e X.env := by rfl) (hline : (apos.endLine == cpos.line) = true := by rfl) : PI X tg (.Call (.Attribute e "values" apos) [] [] cpos) (iValsQ td) := by
  refine ⟨fun pins s σ H R I h => ?_⟩
  refine wpAny_Call_method (T := "dict") (id := "dict.values") hbase rfl hline F.plainAttrs_dict F.slot_dict_values F.type_dict_values (thn (he.run pins s σ H _ I h) fun u s1 ⟨x, H1, I1, rx, d, o, kvs, ex, hd, q⟩ => ?_)
  subst ex
  obtain rfl : u = Value.ref d := rx
  obtain ⟨hs, hgd, hx, es, ep, hdt, hsz, ent⟩ := frzT2 I1 hd
  have hm : PySem.Heap.DictRaw s1.heap d es ep := ⟨o, hgd, hx, hdt⟩
  refine ⟨hm.typeIs, fun b z => (by cases z; exact ⟨o, hgd, hx.2.1⟩), ?_⟩
  have I2 : Inv X pins σ H1 { s1 with heap := s1.heap.push { cls := .type "dict_values", data := .fields #[.ref d] } } := I1.kept (t' := s1.toks) fun b ob q => Heap.get?_push_of_some _ q
  have fin : wpAny (model X.prog X.w) X.A (pyIter (.ref s1.heap.objs.size)) (PIE X pins σ tg R) X.xe { s1 with heap := s1.heap.push { cls := .type "dict_values", data := .fields #[.ref d] } } := by
    refine PySem.wpAny_pyIter_values_raw (d := d) ⟨_, Heap.get?_push_size _ rfl, rfl, rfl⟩ (hm.at fun o q => Heap.get?_push_of_some _ q) (pi_one (tk := s1.toks) I2 _ (turn_valsQ _ hdt) ⟨_, Heap.get?_push_size _ rfl, rfl, rfl⟩ q)
  show wpAny _ _ (callWith cpos (.builtin "dict.values") [.ref d] [] []) _ X.xe s1
  exact method_meetsIn F.slot_dict_values F.entry_dict_values rfl (PySem.evalArgs_none ⟨rfl, hm.typeIs, F.args_dict_values_1 _, _, PySem.meets_dict_values_raw d hs, ⟨es, ep, hm⟩, fin⟩)
theorem pi_itemsQ {elts : List Expr} {kk : Nat} {tpos : Pos} (he : PE X e td) (hbase : attributeBase e "items" X.env (eval e X.env) = eval e X.env := by rfl) (hline : (apos.endLine == cpos.line) = true := by rfl) :
    PI X (.Tuple elts kk tpos) (.Call (.Attribute e "items" apos) [] [] cpos) (iItemsQ td) := by
  refine ⟨fun pins s σ H R I h => ?_⟩
  refine wpAny_Call_method (T := "dict") (id := "dict.items") hbase rfl hline F.plainAttrs_dict F.slot_dict_items F.type_dict_items (thn (he.run pins s σ H _ I h) fun u s1 ⟨x, H1, I1, rx, d, o, kvs, ex, hd, q⟩ => ?_)
  subst ex
  obtain rfl : u = Value.ref d := rx
  obtain ⟨hs, hgd, hx, es, ep, hdt, hsz, ent⟩ := frzT2 I1 hd
  have hm : PySem.Heap.DictRaw s1.heap d es ep := ⟨o, hgd, hx, hdt⟩
  refine ⟨hm.typeIs, fun b z => (by cases z; exact ⟨o, hgd, hx.2.1⟩), ?_⟩
  have I2 : Inv X pins σ H1 { s1 with heap := s1.heap.push { cls := .type "dict_items", data := .fields #[.ref d] } } := I1.kept (t' := s1.toks) fun b ob q => Heap.get?_push_of_some _ q
  have fin : wpAny (model X.prog X.w) X.A (pyIter (.ref s1.heap.objs.size)) (PIE X pins σ (.Tuple elts kk tpos) R) X.xe { s1 with heap := s1.heap.push { cls := .type "dict_items", data := .fields #[.ref d] } } := by
    refine PySem.wpAny_pyIter_items_raw (d := d) ⟨_, Heap.get?_push_size _ rfl, rfl, rfl⟩ (hm.at fun o q => Heap.get?_push_of_some _ q) (pi_one (tk := s1.toks) I2 _ (turn_itemsQ _ hdt) ⟨.none, .none, Heap.get?_push_size _ rfl⟩ (q es fun i k v z => let ⟨en, qa, h1, h2, h3, _⟩ := ent i k v z; ⟨en, qa, h1, h2, h3⟩))
  show wpAny _ _ (callWith cpos (.builtin "dict.items") [.ref d] [] []) _ X.xe s1
  exact method_meetsIn F.slot_dict_items F.entry_dict_items rfl (PySem.evalArgs_none ⟨rfl, hm.typeIs, F.args_dict_items_1 _, _, PySem.meets_dict_items_raw d hs, ⟨es, ep, hm⟩, fin⟩)
end
def dvT (g : List Key × D → D) (m : ME) : MI := fun e => (m e).bind fun p => (tk p.2 p.1).bind fun q => (asDT q.1).map fun es => (es.map g, q.2)
theorem dvT_inv {g : List Key × D → D} {m : ME} {e e2 : Env} {ds : List D} (h : dvT g m e = some (ds, e2)) : ∃ l e1 es, m e = some (l, e1) ∧ tk e1 l = some (.dit es, e2) ∧ ds = es.map g := by
  unfold dvT at h
  obtain ⟨⟨l, e1⟩, h1, h⟩ := Option.bind_eq_some_iff.mp h
  obtain ⟨⟨d, e3⟩, h2, h⟩ := Option.bind_eq_some_iff.mp h
  obtain ⟨es, h3, h⟩ := Option.map_eq_some_iff.mp h
  cases h
  cases asDT_iff h3
  exact ⟨l, e1, es, h1, h2, rfl⟩
/-- for k in d -/
def keysT (m : ME) : MI := dvT (fun p => .hup (p.1.map kD)) m
/-- for v in d.values() -/
def valuesT (m : ME) : MI := dvT (fun p => p.2) m
/-- for k, v in d.items() -/
def itemsT (m : ME) : MI := dvT (fun p => .hup [.hup (p.1.map kD), p.2]) m
theorem key_tup {F H : Hp} {kvs : List (List Key × V)} {ks : List (List Key × D)} {es : Array DictEntry} {i : Nat} {en : DictEntry} {q : Addr} (tp : ∀ b xs, H b = some (.tup xs) → F b = some (.tup xs)) (ka : KeysAt H kvs es) (rk : RpT K F kvs ks) (hl : i < ks.length) (h1 : es[i]? = some en) (h2 : en.key = .ref q) : F q = some (.tup (ks[i].1.map kV)) := by
  obtain ⟨v, e1, _⟩ := rk.get (List.getElem?_eq_getElem hl)
  obtain ⟨en', q', a1, a2, a3⟩ := ka i _ _ e1
  rw [h1] at a1; cases a1
  rw [h2] at a2; cases a2
  exact tp _ _ a3
theorem sim_keysT {t : TE} {m : ME} (h : SimE K t m) : SimI K (iKeysQ (tLk t)) (keysT m) := ⟨fun {F0 Gd ios F H σ e os ds e' R} W hm q => by
  obtain ⟨l, e1, es, h1, h2, rfl⟩ := dvT_inv hm
  refine lk_runT h W h1 h2 fun F' H' os' a o kvs W' s hf rk => ⟨a, o, kvs, rfl, W'.fh _ _ hf, fun dn ka => q F' H' os' _ W' s fun F2 H2 i s2 fh2 => ⟨fun d hd => ?_, fun hi => ?_⟩⟩
  · have hl : i < es.length := by
      have := (List.getElem?_eq_some_iff.mp hd).1
      rwa [List.length_map] at this
    rw [List.getElem?_map, List.getElem?_eq_getElem hl] at hd
    cases hd
    refine ⟨⟨fh2 _ _ (s2.at hf), by rw [rk.length]; exact hl⟩, fun x H3 hy => ?_⟩
    obtain ⟨rfl, en, qa, a1, a2, rfl⟩ := hy
    exact ⟨F2, Ext.refl fh2, .hup (s2.at (key_tup W'.tp.tup ka rk hl a1 a2)) (kDs_rp _)⟩
  · rw [List.length_map] at hi
    exact ⟨fh2 _ _ (s2.at hf), by rw [rk.length, hi]; exact Nat.le_refl _⟩⟩
theorem sim_valuesT {t : TE} {m : ME} (h : SimE K t m) : SimI K (iValsQ (tLk t)) (valuesT m) := ⟨fun {F0 Gd ios F H σ e os ds e' R} W hm q => by
  obtain ⟨l, e1, es, h1, h2, rfl⟩ := dvT_inv hm
  refine lk_runT h W h1 h2 fun F' H' os' a o kvs W' s hf rk => ⟨a, o, kvs, rfl, W'.fh _ _ hf, q F' H' os' _ W' s fun F2 H2 i s2 fh2 => ⟨fun d hd => ?_, fun hi => ?_⟩⟩
  · have hl : i < es.length := by
      have := (List.getElem?_eq_some_iff.mp hd).1
      rwa [List.length_map] at this
    rw [List.getElem?_map, List.getElem?_eq_getElem hl] at hd
    cases hd
    refine ⟨⟨fh2 _ _ (s2.at hf), by rw [rk.length]; exact hl⟩, fun x H3 hy => ?_⟩
    obtain ⟨rfl, k, e1⟩ := hy
    obtain ⟨w, e2, rw'⟩ := rk.get (List.getElem?_eq_getElem hl)
    rw [e1] at e2; cases e2
    exact ⟨F2, Ext.refl fh2, rw'.mono s2⟩
  · rw [List.length_map] at hi
    exact ⟨fh2 _ _ (s2.at hf), by rw [rk.length, hi]; exact Nat.le_refl _⟩⟩
theorem sim_itemsT {t : TE} {m : ME} (h : SimE K t m) : SimI K (iItemsQ (tLk t)) (itemsT m) := ⟨fun {F0 Gd ios F H σ e os ds e' R} W hm q => by
  obtain ⟨l, e1, es, h1, h2, rfl⟩ := dvT_inv hm
  refine lk_runT h W h1 h2 fun F' H' os' a o kvs W' s hf rk => ⟨a, o, kvs, rfl, W'.fh _ _ hf, fun dn ka => q F' H' os' _ W' s fun F2 H2 i s2 fh2 => ⟨fun d hd => ?_, fun hi => ?_⟩⟩
  · have hl : i < es.length := by
      have := (List.getElem?_eq_some_iff.mp hd).1
      rwa [List.length_map] at this
    rw [List.getElem?_map, List.getElem?_eq_getElem hl] at hd
    cases hd
    refine ⟨⟨fh2 _ _ (s2.at hf), by rw [rk.length]; exact hl⟩, fun x H3 hy => ?_⟩
    obtain ⟨T, en, qa, k, v, a1, a2, e1, rfl, hn, rfl⟩ := hy
    obtain ⟨w, e2, rw'⟩ := rk.get (List.getElem?_eq_getElem hl)
    rw [e1] at e2; cases e2
    have x := Ext.new (o := .tup [.ref qa, v]) fh2 hn
    exact ⟨_, x, .hup upd_same (.cons ((Rp.hup (s2.at (key_tup W'.tp.tup ka rk hl a1 a2)) (kDs_rp _)).mono x.f) (.cons ((rw'.mono s2).mono x.f) .nil))⟩
  · rw [List.length_map] at hi
    exact ⟨fh2 _ _ (s2.at hf), by rw [rk.length, hi]; exact Nat.le_refl _⟩⟩
section
variable {X : Cx} {e : Expr} {m : ME} {apos cpos : Pos} {tg : Expr}
theorem i_keysT (he : PE X e (rE X.K m)) : PI X tg e (rIt X.K (keysT m)) := toI (pi_keysQ (pe_lk he)) (sim_keysT sim_rE)
theorem i_valuesT (he : PE X e (rE X.K m)) (hbase : attributeBase e "values" X.env (eval e X.env) = eval e X.env := by rfl) (hline : (apos.endLine == cpos.line) = true := by rfl) :
    PI X tg (.Call (.Attribute e "values" apos) [] [] cpos) (rIt X.K (valuesT m)) := toI (pi_valuesQ (pe_lk he) hbase hline) (sim_valuesT sim_rE)
theorem i_itemsT {elts : List Expr} {kk : Nat} {tpos : Pos} (he : PE X e (rE X.K m)) (hbase : attributeBase e "items" X.env (eval e X.env) = eval e X.env := by rfl) (hline : (apos.endLine == cpos.line) = true := by rfl) :
    PI X (.Tuple elts kk tpos) (.Call (.Attribute e "items" apos) [] [] cpos) (rIt X.K (itemsT m)) := toI (pi_itemsQ (pe_lk he) hbase hline) (sim_itemsT sim_rE)
end
end Dk
set_option exponentiation.threshold 256
namespace Dk
open PySem PySem.Spec PyProof.Rows L2
variable [tabP : TabP]
variable {K : PySem.W.Frag}
theorem wok_args {F H : Hp} {vs : List V} {a : Env} {os : List (Option Addr)} (A : ArgOk K F H vs a os) : WOk K F (gdOf F H os) os F H (vs.map some) a os := by
  refine ⟨A.fh, Sm.refl _, fun b o q => gdOf_iff q, ?_, A.lo, fun i s q => ?_, A.ds, fun i p q => ?_, A.tp, gdOf_nt⟩
  · rw [List.length_map, A.lv]
  · have z := (A.sl i s q).2
    rw [List.getElem?_map]
    have e : ((vs[i]?).map some).join = vs[i]? := by cases vs[i]? <;> rfl
    rw [e]
    exact z
  · have hi : i < a.length := by rw [← A.lo]; exact (List.getElem?_eq_some_iff.mp q).1
    refine ⟨q, ?_⟩
    have hs : a[i]? = some a[i] := List.getElem?_eq_getElem hi
    have z := A.sl i _ hs
    rw [q] at z
    rw [hs]
    cases y : a[i] with
    | no => rw [y] at z; cases z.2
    | fn kf => rw [y] at z; exact nomatch z.2.1
    | fz d => rw [y] at z; exact nomatch z.2.1
    | ow d => exact absurd y (z.1 d)
    | io d => exact ⟨d, rfl⟩
def tryMeC (rs : List Str) (sub : Str → Str → Bool) (flds : List (Str × Str)) (cl : List Clause) (good : Str) (kc : Nat) (js : List Nat) (m : ME) (mx : MX) : ME := fun e => (tks e (js.map L.s)).bind fun c => (ownD c.2 kc).bind fun o => match m (.io o :: c.1.map .fz) with
  | some r => (ioOf r.2).bind fun o2 => (wr c.2 kc o2).map fun e2 => (.v (.str good), e2)
  | none => (mx (.io o :: c.1.map .fz)).bind fun p => (okB (decide (p.1.n ∈ rs) && p.1.fs.all fun z => decide ((p.1.n, z.1) ∈ flds))).bind fun _ => (ioOf p.2).bind fun o2 => (wr c.2 kc o2).bind fun e2 => (answers sub cl p.1).map fun d => (.v d, e2)
section
variable {X : Cx}
theorem d_metC {x z : Str} {kc : Nat} {k : Nat} {cl : List Clause} {good : Str} {rs hs : List Str} {sub : Str → Str → Bool} {flds : List (Str × Str)} {ar : Arguments} {bd : Expr} {sc : Scope} {js : List Nat} {p lp pos : Pos} {cd : Addr} {m : ME} {mx : MX}
    (M : HasTry X.prog X.w X.K X.mg X.base x (k + 1) cl good) (XF : XFacts X.K X.mg rs hs sub flds) (hcl : ∀ c ∈ cl, c.h ∈ hs) (T : TabOf X.base X.mg z cd) (hcd : X.env.code = .ref cd) (hq : X.env.qual = z ++ ".<locals>.") (L : lamYB X.env.scope sc [] = true) (hc : capB X.N sc (kc :: js) = true) (hd : defaultsOf ar X.env = ([], []))
    (hbind : ∀ (q : Str) (cl : List (Str × Addr)) (pm cv ct : Value), bindArgs (PySem.W.kla_fn "<lambda>" q ar bd sc cl pm cv ct) ⟨[], []⟩ = pure []) (hr : Room (k + 2) X.A) (hgd : X.A.guards = some [])
    (hN : ∀ (A : Around) (outer : List PySem.Env) (s : Shared) (H : Hp) (f c : Addr) (E : XK) (n : Nat), Room k (A.deeper (LamX.lamEnv X sc n f c)) → (A.deeper (LamX.lamEnv X sc n f c)).guards = some [] → n = s.heap.objs.size → PE (lamCz X A outer s H E sc f c (kc :: js)) bd (rE X.K m))
    (hX : ∀ (A : Around) (outer : List PySem.Env) (s : Shared) (H : Hp) (f c : Addr) (E : XK) (n : Nat), Room k (A.deeper (LamX.lamEnv X sc n f c)) → (A.deeper (LamX.lamEnv X sc n f c)).guards = some [] → n = s.heap.objs.size → Takes (lamCz X A outer s H E sc f c (kc :: js)) (wZ E) → PE (lamCz X A outer s H E sc f c (kc :: js)) bd (zE X.K (wZ E) mx))
    (hg : Gl X x := by rfl) (hdb : (x == ("__debug__" : Str)) = false := by decide) : PE X (.Call (.Name x p) [.Lambda ar bd sc lp] [] pos) (rE X.K (tryMeC rs sub flds cl good kc js m mx)) := ⟨fun pins s σ H Q I ⟨F0, Gd, ios, F, e, os, l, e', W, hmm, q⟩ => by
  obtain ⟨P, B, hmT, hu⟩ := T
  rw [← hq] at hmT hu
  have L := lamY_by L
  obtain ⟨g, fd, st, a, Ng, hds, p1, p2, p3, p4, p5, p6, j, Fu, hmg, kp, hb, Sg, hN0, hNd, hva, ha1, ha2, hbody, hne, hcls⟩ := M
  unfold tryMeC at hmm
  obtain ⟨⟨ds, e1⟩, h1, hmm⟩ := Option.bind_eq_some_iff.mp hmm
  obtain ⟨oc0, h1o, hmm⟩ := Option.bind_eq_some_iff.mp hmm
  refine wpAny_Call_Name_kw (ld_glob I hg hmg ?_ hdb)
  refine PySem.W.callWith_K (h₀ := X.base) I.ok.mod.kin kp ?_ (by rfl) (by rfl)
  show wpAny _ _ (spliced ((false, eval (.Lambda ar bd sc lp) X.env) :: backTo pos (starEach [] X.env))) _ _ s
  obtain ⟨caps, F1, os1, W1, s1, r1, ec⟩ := W.takeS h1
  have hfr : ∀ z ∈ sc.names, z.2 = .free → ∃ c, X.env.cells.lookup z.1 = some c := fun z hz ez => by
    rcases L.free z hz ez with k | k
    · exact I.ok.has _ (.inl k)
    · exact I.ok.has _ (.inr k)
  refine Calls.spliced_cons (lam_laid I B hcd hmT hu W.tp.tb hd hfr fun f c pm ct H1 t1 I1 mk T1 hf hfn hff hyo => ?_)
  obtain ⟨hc1, hc2, hc3⟩ := made_code W1.fh W1.tp mk
  have W2 := W1.ext (ext_made W1.fh W1.tp mk T1)
  obtain ⟨pc, hpc, hvc, obc⟩ := W2.at_ h1o
  refine Calls.spliced_nil ⟨I1.kIn, ?_⟩
  -- what is wanted of the whole
  obtain ⟨d, hout, el, hmet⟩ : ∃ d, (∀ F' H' y, WOk X.K F0 Gd ios F' H' σ e' os1 → Sm F1 F' → Rp X.K F' y d → Q y H') ∧ l = .v d ∧ ((d = .str good ∧ ∃ r o2, m (.io oc0 :: ds.map .fz) = some r ∧ ioOf r.2 = some o2 ∧ wr e1 kc o2 = some e') ∨ ∃ p o2, mx (.io oc0 :: ds.map .fz) = some p ∧ (decide (p.1.n ∈ rs) && p.1.fs.all fun z => decide ((p.1.n, z.1) ∈ flds)) = true ∧ ioOf p.2 = some o2 ∧ wr e1 kc o2 = some e' ∧ answers sub cl p.1 = some d) := by
    have fin : ∀ d, l = .v d → ∀ F' H' y, WOk X.K F0 Gd ios F' H' σ e' os1 → Sm F1 F' → Rp X.K F' y d → Q y H' := fun d e2 F' H' y W s2 rp => by
      subst e2
      exact q F' H' os1 y W (s1.trans s2) rp
    cases hm1 : m (.io oc0 :: ds.map .fz) with
    | some r =>
      rw [hm1] at hmm
      obtain ⟨o2, h2, hmm⟩ := Option.bind_eq_some_iff.mp hmm
      obtain ⟨e3, h3, hmm⟩ := Option.map_eq_some_iff.mp hmm
      cases hmm
      exact ⟨_, fin _ rfl, rfl, .inl ⟨rfl, r, o2, rfl, h2, h3⟩⟩
    | none =>
      rw [hm1] at hmm
      obtain ⟨p, h2, hmm⟩ := Option.bind_eq_some_iff.mp hmm
      obtain ⟨_, h3, hmm⟩ := Option.bind_eq_some_iff.mp hmm
      obtain ⟨o2, h4, hmm⟩ := Option.bind_eq_some_iff.mp hmm
      obtain ⟨e3, h5, hmm⟩ := Option.bind_eq_some_iff.mp hmm
      obtain ⟨d, h6, hmm⟩ := Option.map_eq_some_iff.mp hmm
      cases hmm
      exact ⟨_, fin _ rfl, rfl, .inr ⟨p, o2, h2, okB_iff h3, h4, h5, h6⟩⟩
  have wl := wok_args (args_io W2.fh W2.tp r1 obc)
  have est : lamSt σ (kc :: js) [] = (V.ref pc :: caps).map some := by
    unfold lamSt
    rw [List.map_cons, ec, hvc]; simp
  have after : ∀ {F' H' : Hp} {σ' : L2.St} {os' : List (Option Addr)} {eL : Env} {o2 : D}, WOk X.K F1 (gdOf F1 H1 (some pc :: ds.map fun _ => none)) (some pc :: ds.map fun _ => none) F' H' σ' eL os' → ioOf eL = some o2 → wr e1 kc o2 = some e' → WOk X.K F0 Gd ios F' H' σ e' os1 := fun {F' H' σ' os' eL o2} W' hi hw => by
    refine W2.chg hpc W'.f0 W'.fh (fun b u hb n kk ne => ?_) ?_ hw W'.tp
    · obtain ⟨q1, q2, _⟩ := W'.gd b u (by
        rw [gdOf_of n (fun i z => ?_) fun ps z => kk ps (Option.some.inj (hb.symm.trans z))]
        · exact hb
        · cases i with
          | zero => cases z; exact ne rfl
          | succ i => exact noneOs b i z)
      exact ⟨q1, q2⟩
    · obtain ⟨q1, d2, q2⟩ := W'.io 0 pc rfl
      obtain ⟨p2, a1, a2, ob⟩ := W'.sl 0 _ q2
      rw [q1] at a1; cases a1
      unfold ioOf at hi
      rw [q2] at hi
      cases hi
      exact ob
  obtain ⟨oc, od, kV, doc, pm2, an, cdv, ct2, osl, efd, lk, hcdv⟩ := Fu.ex
  subst efd
  have rc : codeAny (model X.prog X.w) X.A (.call (.ref g) ⟨[.ref f], []⟩) (CR CX0 X.stack X.prog X.w H1 t1 Q E0) t1 := by
    refine LamX.run_ofS (N := Ng) (ps := [a]) (us := [.ref f]) (vs := [.ref f]) (k := k + 1) lk hcdv Sg hr I1.env0 (hb t1 [.ref f] I1.kIn rfl) (.cons rfl .nil) rfl fun hr' => ?_
    obtain ⟨hok, hsw⟩ := hcls cdv X.A X.stack t1 H1 hr' hgd
    obtain ⟨lc, hH, hans⟩ := clsOk_hds (X := defCx X.prog X.w X.K X.mg X.base Ng x (defScope st) g cdv X.A X.stack t1 H1) XF hok hcl
    rw [hbody]
    cases hds with
    | nil => exact absurd rfl hne
    | cons hd0 hdr =>
    refine ⟨_, (pss_cons (ps_try_n (X := defCx X.prog X.w X.K X.mg X.base Ng x (defScope st) g cdv X.A X.stack t1 H1) (Wout := fun _ _ _ _ => False)
      (tb := fun W D σZ HZ => σZ[0]? = some (some (.ref f)) ∧ HZ c = some (LamX.CodeO c (X.env.qual ++ "<lambda>")) ∧ (rE X.K m (lamSt σ (kc :: js) []) HZ (fun _ H' => D.nx σZ H') ∨ zE X.K (wZ fun cls d H' => W cls d σZ H') mx (lamSt σ (kc :: js) []) HZ fun _ H' => D.nx σZ H'))
      rfl rfl hNd takes_none5 (fun W pn xe tk po => ?_) hH) (pss_one (ps_ret pe_str))).nox, ?_⟩
    · exact pss_one (ps_expr (pe_act0 (i := 0) (k := k) (tb := fun E => fun σ' HZ Q => rE X.K m σ' HZ Q ∨ zE X.K (wZ E) mx σ' HZ Q) I1 L (capOk_by hc) hf hfn hff (hbind _ _ _ _ _) tk hr' hgd (fun A outer s H E hra hga => ⟨fun pins s2 σ2 H2 Q2 I2 h => by
        rcases h with h | h
        · exact (hN A outer s H f c E _ hra hga rfl).run pins s2 σ2 H2 Q2 I2 h
        · exact (hX A outer s H f c E _ hra hga rfl (takes_of rfl rfl rfl rfl)).run pins s2 σ2 H2 Q2 I2 h⟩) hN0 hva ha1 ha2) (hsw pn xe))
    · have hlen : (L2.start Ng [V.ref f]).length = Ng.length := by
        have z : 1 ≤ Ng.length := (List.getElem?_eq_some_iff.mp hN0).1
        unfold L2.start
        rw [List.length_append, List.length_map, List.length_replicate]
        show 1 + (Ng.length - 1) = _
        omega
      refine ⟨rfl, hc1, ?_⟩
      rw [est]
      rcases hmet with ⟨ed, r, o2, hm1, hi, hw⟩ | ⟨⟨xx, e2⟩, o2, h2, h3, hi, hw, h4⟩
      · left
        obtain ⟨l2, e2⟩ := r
        exact ⟨F1, _, _, F1, _, _, l2, e2, wl, hm1, fun F' H' os' y W' s' _ => hout F' H' _ (after W' hi hw) W'.f0 (by rw [ed]; exact .str good)⟩
      · right
        refine ⟨F1, _, _, F1, _, _, xx, e2, wl, h2, fun F' H' σ' os' cls d2 W' s' ok => ?_⟩
        obtain ⟨⟨C, hC, rfl⟩, hfd⟩ := ok
        have h3 := Bool.and_eq_true_iff.mp h3
        refine hans _ _ xx C d2 F' H' _ d (of_decide_eq_true h3.1) hC (fun z hz => XF.fl _ (of_decide_eq_true (List.all_eq_true.mp h3.2 z hz)) C hC) hfd W'.fh hlen h4 fun F2 H2 y ex ry => hout F2 H2 y ((after W' hi hw).ext ex) (W'.f0.trans ex.f) ry
  refine wpAny_call (codeAny_mono rc fun r s' hq => ?_)
  cases r with
  | error _ => exact False.elim hq
  | ok fl => cases fl with
    | ret u => exact I1.after hq
    | next => exact False.elim hq
    | brk => exact False.elim hq
    | cont => exact False.elim hq⟩
end
end Dk
set_option exponentiation.threshold 256
namespace Dk
open PySem PySem.Spec PyProof.Rows L2
variable [tabP : TabP]
variable {K : PySem.W.Frag}
def orG (ma mb : ME) : ME := fun e => (ma e).bind fun p => (rd p.2 p.1).bind fun d => match d with
  | .non => mb p.2
  | .int i => if i = 0 then mb p.2 else some (.v (.int i), p.2)
  | _ => none
theorem sim_orG {ta tb : TE} {ma mb : ME} (ha : SimE K ta ma) (hb : SimE K tb mb) : SimE K (tOrT K ta tb) (orG ma mb) := ⟨fun {F0 Gd ios F H σ e os l e' Q} W hm q => by
  unfold orG at hm
  obtain ⟨⟨l1, e1⟩, h1, hm⟩ := Option.bind_eq_some_iff.mp hm
  obtain ⟨d, h2, hm⟩ := Option.bind_eq_some_iff.mp hm
  refine ha.run W h1 fun F1 H1 os1 x W1 s1 k1 => ?_
  have b := W1.bw k1 h2
  cases d <;> first | (cases hm; done) | skip
  · refine ⟨false, by rw [b.isNon]; rfl, ?_⟩
    rw [if_neg Bool.false_ne_true]
    exact hb.run W1 hm fun F2 H2 os2 y W2 s2 k2 => q F2 H2 os2 y W2 (s1.trans s2) k2
  · rename_i i
    have hm : (if i = 0 then mb e1 else some (L.v (D.int i), e1)) = some (l, e') := hm
    by_cases hi : i = 0
    · rw [if_pos hi] at hm
      refine ⟨false, by rw [b.isInt, hi]; rfl, ?_⟩
      rw [if_neg Bool.false_ne_true]
      exact hb.run W1 hm fun F2 H2 os2 y W2 s2 k2 => q F2 H2 os2 y W2 (s1.trans s2) k2
    · rw [if_neg hi] at hm
      cases hm
      refine ⟨true, by rw [b.isInt]; show true = (i != 0); simp [hi], ?_⟩
      rw [if_pos rfl]
      rw [b.isInt]
      exact q F1 H1 os1 _ W1 s1 (show Rp K F1 _ _ from .int i)⟩
theorem d_orG {X : Cx} {a b : Expr} {es : List Expr} {pos : Pos} {ma mb : ME} (ha : PE X a (rE X.K ma)) (hb : PE X (.BoolOp .Or (b :: es) pos) (rE X.K mb)) : PE X (.BoolOp .Or (a :: b :: es) pos) (rE X.K (orG ma mb)) := toE (pe_orT ha hb) (sim_orG sim_rE sim_rE)
end Dk
set_option exponentiation.threshold 256
namespace Dk
open PySem PySem.Spec PyProof.Rows L2
variable [tabP : TabP]
variable {K : PySem.W.Frag}
def eqXs : List D → List D → Option (List Bool)
  | [], [] => some []
  | a :: r, b :: t => (eqX 8 a b).bind fun x => (eqXs r t).map fun l => x :: l
  | _, _ => none
theorem eqXs_len : ∀ {ds es : List D} {bs : List Bool}, eqXs ds es = some bs → ds.length = bs.length ∧ es.length = bs.length
  | [], [], _, h => by cases h; exact ⟨rfl, rfl⟩
  | a :: r, b :: t, _, h => by
    unfold eqXs at h
    obtain ⟨x, h1, h⟩ := Option.bind_eq_some_iff.mp h
    obtain ⟨l, h2, h⟩ := Option.map_eq_some_iff.mp h
    cases h
    obtain ⟨k1, k2⟩ := eqXs_len h2
    rw [List.length_cons, List.length_cons, List.length_cons, k1, k2]
    exact ⟨rfl, rfl⟩
  | [], _ :: _, _, h => by cases h
  | _ :: _, [], _, h => by cases h
theorem eqXs_at : ∀ {ds es : List D} {bs : List Bool} {j : Nat} {a b : D}, eqXs ds es = some bs → ds[j]? = some a → es[j]? = some b → ∃ r, bs[j]? = some r ∧ eqX 8 a b = some r
  | [], _, _, j, _, _, _, h, _ => by simp at h
  | _ :: _, [], _, j, _, _, _, _, h => by simp at h
  | a :: r, b :: t, _, j, _, _, h, ha, hb => by
    unfold eqXs at h
    obtain ⟨x, h1, h⟩ := Option.bind_eq_some_iff.mp h
    obtain ⟨l, h2, h⟩ := Option.map_eq_some_iff.mp h
    cases h
    cases j with
    | zero => simp at ha hb; subst ha; subst hb; exact ⟨x, rfl, h1⟩
    | succ j =>
      rw [List.getElem?_cons_succ] at ha hb ⊢
      exact eqXs_at h2 ha hb
def rEqL (K : PySem.W.Frag) : R2 := fun x y H Q => ∃ F a b xs ys ds es bs, Same F H ∧ x = .ref a ∧ y = .ref b ∧ H a = some (.lst xs) ∧ H b = some (.lst ys) ∧ RpL K F xs ds ∧ RpL K F ys es ∧ eqXs ds es = some bs ∧ Q (.bl (bs.all id)) H
theorem all_getD (bs : List Bool) : (List.range bs.length).all (fun j => bs.getD j true) = bs.all id := by
  rw [Bool.eq_iff_iff, List.all_eq_true, List.all_eq_true]
  constructor
  · intro h x hx
    obtain ⟨j, hj, rfl⟩ := List.mem_iff_getElem.mp hx
    have := h j (List.mem_range.mpr hj)
    rw [List.getD_eq_getElem?_getD, List.getElem?_eq_getElem hj] at this
    exact this
  · intro h j hj
    have hj := List.mem_range.mp hj
    rw [List.getD_eq_getElem?_getD, List.getElem?_eq_getElem hj]
    exact h _ (List.getElem_mem hj)
theorem opr_eqL {X : Cx} {k : Nat} (hr : Room k X.A) : OpR X (compareOp .Eq) (rEqL X.K) := by
  intro pins s σ H x y v u Q I rx ry h
  obtain ⟨F, a, b, xs, ys, ds, es, bs, sf, rfl, rfl, ha, hb, ka, kb, hc, q⟩ := h
  cases (show v = Value.ref a from rx)
  cases (show u = Value.ref b from ry)
  have hu := hr.un
  obtain ⟨l1, l2⟩ := eqXs_len hc
  obtain ⟨us, r1, p1, _⟩ := I.list (.inl (.inl ha))
  obtain ⟨ws, r2, p2, _⟩ := I.list (.inl (.inl hb))
  have e1 : us.length = bs.length := by rw [← r1.length, ka.length, l1]
  have e2 : ws.length = bs.length := by rw [← r2.length, kb.length, l2]
  refine SeqAt.rcP_lists (e := fun j => bs.getD j true) p1.isList p2.isList (by rw [List.size_toArray, List.size_toArray, e1, e2]) (by omega) (fun j h1 h2 => ?_) _ _ ?_
  · have h1' : j < us.length := by simpa using h1
    have h2' : j < ws.length := by simpa using h2
    have hd : j < ds.length := by omega
    have he : j < es.length := by omega
    obtain ⟨x1, hx1, rx1⟩ := ka.get (List.getElem?_eq_getElem hd)
    obtain ⟨y1, hy1, ry1⟩ := kb.get (List.getElem?_eq_getElem he)
    obtain ⟨u1, hu1, ru1⟩ := r1.get hx1
    obtain ⟨w1, hw1, rw1⟩ := r2.get hy1
    obtain ⟨r, hr1, hr2⟩ := eqXs_at hc (List.getElem?_eq_getElem hd) (List.getElem?_eq_getElem he)
    rw [List.getElem?_eq_getElem h1'] at hu1
    rw [List.getElem?_eq_getElem h2'] at hw1
    have := eqX_run I sf 8 X.A.in1 (by show X.A.units + 1 + 8 + 64 < cLine; omega) ru1 rw1 rx1 ry1 hr2
    rw [← Option.some.inj hu1, ← Option.some.inj hw1] at this
    rw [List.getD_eq_getElem?_getD, hr1]
    simpa using this
  · rw [List.size_toArray, e1, all_getD]
    exact ⟨.bl _, H, I, rfl, q⟩
def eqLst : D → D → Option D
  | .lst ds, .lst es => (eqXs ds es).map fun bs => .bl (bs.all id)
  | _, _ => none
theorem op2_eqL : Op2 K (rEqL K) eqLst := fun {F H x y dx dy d Q} s bx bY hd q => by
  unfold eqLst at hd
  split at hd
  · obtain ⟨bs, h1, h2⟩ := Option.map_eq_some_iff.mp hd
    cases h2
    obtain ⟨a, xs, rfl, ha, ka⟩ := bx.isLst s
    obtain ⟨b, ys, rfl, hb, kb⟩ := bY.isLst s
    exact ⟨F, a, b, xs, ys, _, _, bs, s, rfl, rfl, ha, hb, ka, kb, h1, q F H _ (Ext.refl s) (.bl _)⟩
  · cases hd
section
variable {X : Cx} {a b : Expr} {ma mb : ME} {pos : Pos} {k : Nat}
theorem d_eqL (hr : Room k X.A) (ha : PE X a (rE X.K ma)) (hb : PE X b (rE X.K mb)) : PE X (.Compare a [.Eq] [b] pos) (rE X.K (binM eqLst ma mb)) := d_cmp (opr_eqL hr) op2_eqL ha hb (nomark _)
end
end Dk
set_option exponentiation.threshold 256
namespace Wk15
open PySem PySem.Spec PyProof.Rows L2 Dk
def topS (i : Nat) : Stmt := PySem.Challenge.pw_whatcounts_k15_errors_of_overlays.main.body.getD i (.Pass ⟨0, 0, 0, 0⟩)
def clsBody : Stmt → List Stmt
  | .ClassDef (body := b) .. => b
  | _ => []
def inS (i j : Nat) : Stmt := (clsBody (topS i)).getD j (.Pass ⟨0, 0, 0, 0⟩)
abbrev s_is_integer : Stmt := topS 16
abbrev s_is_pattern_within : Stmt := topS 22
abbrev s_are_weights : Stmt := topS 45
abbrev s_ordered : Stmt := topS 29
abbrev s_rest : Stmt := topS 28
abbrev s_kept_weights : Stmt := topS 46
abbrev s_is_prime : Stmt := topS 18
abbrev s_require_kind : Stmt := topS 27
abbrev s_are_small : Stmt := topS 19
abbrev s_is_letters : Stmt := topS 20
abbrev s_require_letters : Stmt := topS 23
abbrev s_Sum___init__ : Stmt := inS 47 0
abbrev s_Sum_weights : Stmt := inS 47 3
abbrev s__law_cup : Stmt := topS 69
abbrev s__law_met : Stmt := topS 72
abbrev s__law_bit : Stmt := topS 70
abbrev s__law_pick : Stmt := topS 71
abbrev s_is_integer_within : Stmt := topS 17
abbrev s_less : Stmt := topS 61
abbrev s_first_row : Stmt := topS 37
abbrev s_put : Stmt := topS 35
abbrev s_with_letter : Stmt := topS 36
abbrev s_next_row : Stmt := topS 38
abbrev s_overlays_of : Stmt := topS 39
abbrev s_with_overlays : Stmt := topS 40
abbrev s_product_of : Stmt := topS 41
abbrev s_require_degree : Stmt := topS 51
abbrev s_require_sum : Stmt := topS 54
abbrev s_sum_with : Stmt := topS 48
abbrev s_binomial_of : Stmt := topS 62
abbrev s_is_text_within : Stmt := topS 21
abbrev s_are_images : Stmt := topS 65
abbrev s_chosen : Stmt := topS 31
abbrev s_tails_of : Stmt := topS 32
abbrev s_counts_of : Stmt := topS 33
abbrev s_led_parts : Stmt := topS 66
abbrev s_led : Stmt := topS 67
abbrev s_require_pattern : Stmt := topS 25
abbrev s_overlays : Stmt := topS 60
abbrev s_renamed : Stmt := topS 64
abbrev s_turned_round : Stmt := topS 63
abbrev s__law_right : Stmt := topS 73
abbrev s_law : Stmt := topS 74
abbrev e_InvalidNumber : Stmt := inS 8 0
theorem et_InvalidNumber : ErrT "value" "self" "value" (match defBody e_InvalidNumber with | .Expr (.Call _ (a :: _) _ _) _ :: _ => a | _ => .Constant .none 0 ⟨0, 0, 0, 0⟩) e_InvalidNumber := ⟨⟨_, _, _, _, _, _, _, _, _, rfl, fun qual L fI cda cc => ⟨⟨_, rfl⟩, rfl, rfl, rfl⟩⟩, ⟨rfl, rfl⟩, rfl, rfl, rfl, by decide +kernel, rfl, rfl, rfl, rfl, by decide, by decide, by decide, fun _ _ _ _ _ _ _ _ _ _ => rfl⟩
abbrev e_TooMany : Stmt := inS 9 0
theorem et_TooMany : ErrT "limit" "self" "limit" (match defBody e_TooMany with | .Expr (.Call _ (a :: _) _ _) _ :: _ => a | _ => .Constant .none 0 ⟨0, 0, 0, 0⟩) e_TooMany := ⟨⟨_, _, _, _, _, _, _, _, _, rfl, fun qual L fI cda cc => ⟨⟨_, rfl⟩, rfl, rfl, rfl⟩⟩, ⟨rfl, rfl⟩, rfl, rfl, rfl, by decide +kernel, rfl, rfl, rfl, rfl, by decide, by decide, by decide, fun _ _ _ _ _ _ _ _ _ _ => rfl⟩
def c_GREATEST : D := .int (99999999999999999999999999999999999999999999999999999999999999999999999999999999999999999999999999999999999999999999999999999999999999999999999999999999999999999999999999999999999999999999999999999999)
def c_MAX_DEGREE : D := .int (12)
def c_MAX_IMAGE : D := .int (8)
def c_MAX_OVERLAY : D := .int (8)
def c_MAX_PATTERN : D := .int (400)
def c_MAX_SIZE : D := .int (4)
def c_MAX_TEXT : D := .int (4000)
def c_MAX_WEIGHTS : D := .int (400)
def c_MOST_LETTERS : D := .int (3)
def c_PRIMES : D := .tup [.int (2), .int (3), .int (5), .int (7)]
def xrs : List Str := ["InvalidLetters", "InvalidNumber", "InvalidOperation", "InvalidPattern", "InvalidSum", "TooMany"]
def xhs : List Str := ["InvalidLetters", "InvalidNumber", "InvalidOperation", "InvalidPattern", "InvalidSum", "TooMany"]
def xsub (r h : Str) : Bool := ([("InvalidLetters", "InvalidLetters"), ("InvalidNumber", "InvalidNumber"), ("InvalidOperation", "InvalidOperation"), ("InvalidPattern", "InvalidPattern"), ("InvalidSum", "InvalidSum"), ("TooMany", "TooMany")] : List (Str × Str)).any fun p => decide (p.1 = r) && decide (p.2 = h)
def xflds : List (Str × Str) := [("InvalidNumber", "value"), ("TooMany", "limit")]
structure Txt (P : Program) (K : PySem.W.Frag) (mg : Str → Option Value) : Prop where
  n_abs : mg "abs" = none
  n_all : mg "all" = none
  n_bool : mg "bool" = none
  n_dict : mg "dict" = none
  n_int : mg "int" = none
  n_isinstance : mg "isinstance" = none
  n_len : mg "len" = none
  n_list : mg "list" = none
  n_max : mg "max" = none
  n_min : mg "min" = none
  n_range : mg "range" = none
  n_repr : mg "repr" = none
  n_set : mg "set" = none
  n_sorted : mg "sorted" = none
  n_str : mg "str" = none
  n_sum : mg "sum" = none
  n_tuple : mg "tuple" = none
  n_zip : mg "zip" = none
  c_GREATEST : GlobD K mg "GREATEST" c_GREATEST
  c_MAX_DEGREE : GlobD K mg "MAX_DEGREE" c_MAX_DEGREE
  c_MAX_IMAGE : GlobD K mg "MAX_IMAGE" c_MAX_IMAGE
  c_MAX_OVERLAY : GlobD K mg "MAX_OVERLAY" c_MAX_OVERLAY
  c_MAX_PATTERN : GlobD K mg "MAX_PATTERN" c_MAX_PATTERN
  c_MAX_SIZE : GlobD K mg "MAX_SIZE" c_MAX_SIZE
  c_MAX_TEXT : GlobD K mg "MAX_TEXT" c_MAX_TEXT
  c_MAX_WEIGHTS : GlobD K mg "MAX_WEIGHTS" c_MAX_WEIGHTS
  c_MOST_LETTERS : GlobD K mg "MOST_LETTERS" c_MOST_LETTERS
  c_PRIMES : GlobD K mg "PRIMES" c_PRIMES
  f_is_integer : DefAt K mg "is_integer" s_is_integer
  f_is_pattern_within : DefAt K mg "is_pattern_within" s_is_pattern_within
  f_are_weights : DefAt K mg "are_weights" s_are_weights
  f_ordered : DefAt K mg "ordered" s_ordered
  f_rest : DefAt K mg "rest" s_rest
  f_kept_weights : DefAt K mg "kept_weights" s_kept_weights
  f_is_prime : DefAt K mg "is_prime" s_is_prime
  f_require_kind : DefAt K mg "require_kind" s_require_kind
  f_are_small : DefAt K mg "are_small" s_are_small
  f_is_letters : DefAt K mg "is_letters" s_is_letters
  f_require_letters : DefAt K mg "require_letters" s_require_letters
  f_Sum___init__ : MethAtK K "Sum" "__init__" "Sum.__init__" s_Sum___init__ [("prime", .non), ("checked", .bl true)]
  f_Sum_weights : PropAt K "Sum" "weights" "Sum.weights" s_Sum_weights
  f__law_cup : DefAt K mg "_law_cup" s__law_cup
  f__law_met : DefAt K mg "_law_met" s__law_met
  f__law_bit : DefAt K mg "_law_bit" s__law_bit
  f__law_pick : DefAt K mg "_law_pick" s__law_pick
  f_is_integer_within : DefAt K mg "is_integer_within" s_is_integer_within
  f_less : DefAt K mg "less" s_less
  f_first_row : DefAt K mg "first_row" s_first_row
  f_put : DefAt K mg "put" s_put
  f_with_letter : DefAt K mg "with_letter" s_with_letter
  f_next_row : DefAt K mg "next_row" s_next_row
  f_overlays_of : DefAt K mg "overlays_of" s_overlays_of
  f_with_overlays : DefAt K mg "with_overlays" s_with_overlays
  f_product_of : DefAt K mg "product_of" s_product_of
  f_require_degree : DefAt K mg "require_degree" s_require_degree
  f_require_sum : DefAt K mg "require_sum" s_require_sum
  f_sum_with : DefAt K mg "sum_with" s_sum_with
  f_binomial_of : DefAt K mg "binomial_of" s_binomial_of
  f_is_text_within : DefAt K mg "is_text_within" s_is_text_within
  f_are_images : DefAt K mg "are_images" s_are_images
  f_chosen : DefAt K mg "chosen" s_chosen
  f_tails_of : DefAt K mg "tails_of" s_tails_of
  f_counts_of : DefAt K mg "counts_of" s_counts_of
  f_led_parts : DefAt K mg "led_parts" s_led_parts
  f_led : DefAt K mg "led" s_led
  f_require_pattern : DefAt K mg "require_pattern" s_require_pattern
  f_overlays : DefAt K mg "overlays" s_overlays
  f_renamed : DefAt K mg "renamed" s_renamed
  f_turned_round : DefAt K mg "turned_round" s_turned_round
  xf : XFacts K mg xrs xhs xsub xflds
  ei_InvalidNumber : ErrN K P mg "InvalidNumber" "value" okAny
  ei_TooMany : ErrN K P mg "TooMany" "limit" okInt
  er_InvalidLetters : ErrC K mg "InvalidLetters"
  er_InvalidOperation : ErrC K mg "InvalidOperation"
  er_InvalidPattern : ErrC K mg "InvalidPattern"
  er_InvalidSum : ErrC K mg "InvalidSum"
  io_Sum : IsoD K mg "Sum"
  k_Sum : ClsD K "Sum"
  mk_Sum : MakeAt K mg "Sum"
  x_Sum_own_degree : NoAttrD K "Sum" "own_degree"
  x_Sum_own_letters : NoAttrD K "Sum" "own_letters"
  x_Sum_own_prime : NoAttrD K "Sum" "own_prime"
  x_Sum_own_weights : NoAttrD K "Sum" "own_weights"
section
variable [TabP]
/-- the defs that make lambdas, their tables -/
structure Tbs (K : PySem.W.Frag) (mg : Str → Option Value) (base : Heap) : Prop where
  t__law_right : ∃ cd, DefAtC K mg "_law_right" s__law_right cd ∧ TabOf base mg "_law_right" cd
theorem sc_is_integer : FnScope ["value"] ["value"] (defScope s_is_integer) := ⟨rfl, rfl, rfl, by decide +kernel, rfl, by decide +kernel, by decide +kernel⟩
def b_is_integer : MS := retM (andV (unM (isiD "int") (varM 0)) (andV (notV (unM (isiD "bool") (varM 0))) (chM leD leD (unM (u1 fun i => .int (-i)) (cM c_GREATEST)) (varM 0) (cM c_GREATEST))))
def m_is_integer : MS := fnM 1 0 b_is_integer
theorem ok_is_integer {P : Program} {w : World} {K : PySem.W.Frag} {mg : Str → Option Value} {base : Heap} (T : Txt P K mg) : Has P w K mg base "is_integer" 1 ["value"] m_is_integer := by
  exact hasD T.f_is_integer sc_is_integer rfl rfl (fun _ _ _ _ _ _ us hl => match us, hl with | [_], _ => rfl) (fun f cdv A outer s H hr hg => s_one (s_ret (d_and (d_isi (T := "") T.n_isinstance T.n_int (d_var 0)) (d_and (d_not (d_isi (T := "") T.n_isinstance T.n_bool (d_var 0))) (d_one (d_lele (d_neg (T.c_GREATEST.d)) (d_var 0) (T.c_GREATEST.d)))))))
theorem sc_is_pattern_within : FnScope ["letters", "value", "sign"] ["letters", "value"] (defScope s_is_pattern_within) := ⟨rfl, rfl, rfl, by decide +kernel, rfl, by decide +kernel, by decide +kernel⟩
def b_is_pattern_within : MS := retM (andV (unM (isiD "str") (varM 1)) (andV (binM leD (cbM lenD (consA (varM 1) (nilA))) (cM c_MAX_PATTERN)) (cbM allD (consA (frzM (cpM (itX (varM 1)) (nameG 2) (yesM) (binM (inD false) (varM 2) (varM 0)) [2])) (nilA)))))
def m_is_pattern_within : MS := fnM 2 1 b_is_pattern_within
theorem ok_is_pattern_within {P : Program} {w : World} {K : PySem.W.Frag} {mg : Str → Option Value} {base : Heap} (T : Txt P K mg) : Has P w K mg base "is_pattern_within" 1 ["letters", "value"] m_is_pattern_within := by
  exact hasD T.f_is_pattern_within sc_is_pattern_within rfl rfl (fun _ _ _ _ _ _ us hl => match us, hl with | [_, _], _ => rfl) (fun f cdv A outer s H hr hg => s_one (s_ret (d_and (d_isi (T := "") T.n_isinstance T.n_str (d_var 1)) (d_and (d_le (d_len T.n_len (a_cons (d_var 1) (a_nil))) (T.c_MAX_PATTERN.d)) (d_one (d_all rfl T.n_all (a_cons (d_frz (d_lc [("sign", 2)] rfl sc_is_pattern_within.nd (i_any (d_var 1)) (by kernel_rfl) (fun _ _ _ _ _ => g_name 2 sc_is_pattern_within.nd) (fun _ _ _ _ _ => c_no) (fun _ _ _ _ _ => d_in hr (d_var 2) (d_var 0)))) (a_nil))))))))
theorem sc_are_weights : FnScope ["letters", "value", "number", "pattern"] ["letters", "value"] (defScope s_are_weights) := ⟨rfl, rfl, rfl, by decide +kernel, rfl, by decide +kernel, by decide +kernel⟩
def b_are_weights : MS := seqM (ifS (notT (bM (unM (isiD "dict") (varM 1)))) (retM (cM (.bl false))) (nxM)) (seqM (ifS (notT (bM (cbM allD (consA (frzM (cpM (orI (keysM (varM 1)) (keysT (varM 1))) (nameG 3) (yesM) (andV (callM m_is_pattern_within (consA (varM 0) (consA (varM 3) (nilA)))) (binM leD (cbM lenD (consA (varM 3) (nilA))) (cM c_MAX_DEGREE))) [3])) (nilA))))) (retM (cM (.bl false))) (nxM)) (retM (cbM allD (consA (frzM (cpM (orI (valuesM (varM 1)) (valuesT (varM 1))) (nameG 2) (yesM) (callM m_is_integer (consA (varM 2) (nilA))) [2])) (nilA)))))
def m_are_weights : MS := fnM 2 2 b_are_weights
theorem ok_are_weights {P : Program} {w : World} {K : PySem.W.Frag} {mg : Str → Option Value} {base : Heap} (T : Txt P K mg) : Has P w K mg base "are_weights" 2 ["letters", "value"] m_are_weights := by
  have h_is_integer := ok_is_integer (P := P) (w := w) (base := base) T
  have h_is_pattern_within := ok_is_pattern_within (P := P) (w := w) (base := base) T
  exact hasD T.f_are_weights sc_are_weights rfl rfl (fun _ _ _ _ _ _ us hl => match us, hl with | [_, _], _ => rfl) (fun f cdv A outer s H hr hg => s_cons (s_if (t_not (t_val (d_isi (T := "") T.n_isinstance T.n_dict (d_var 1)))) (s_one (s_ret (d_bl))) (s_nil)) (s_cons (s_if (t_not (t_val (d_all rfl T.n_all (a_cons (d_frz (d_lc [("pattern", 3)] rfl sc_are_weights.nd (i_orI (i_keys (d_var 1)) (i_keysT (d_var 1))) (by kernel_rfl) (fun _ _ _ _ _ => g_name 3 sc_are_weights.nd) (fun _ _ _ _ _ => c_no) (fun _ _ _ _ _ => d_and (d_callH h_is_pattern_within (hr.mono (by decide)) hg (a_cons (d_var 0) (a_cons (d_var 3) (a_nil)))) (d_one (d_le (d_len T.n_len (a_cons (d_var 3) (a_nil))) (T.c_MAX_DEGREE.d)))))) (a_nil))))) (s_one (s_ret (d_bl))) (s_nil)) (s_one (s_ret (d_all rfl T.n_all (a_cons (d_frz (d_lc [("number", 2)] rfl sc_are_weights.nd (i_orI (i_values (d_var 1)) (i_valuesT (d_var 1))) (by kernel_rfl) (fun _ _ _ _ _ => g_name 2 sc_are_weights.nd) (fun _ _ _ _ _ => c_no) (fun _ _ _ _ _ => d_callH h_is_integer (hr.mono (by decide)) hg (a_cons (d_var 2) (a_nil))))) (a_nil)))))))
theorem sc_ordered : FnScope ["texts"] ["texts"] (defScope s_ordered) := ⟨rfl, rfl, rfl, by decide +kernel, rfl, by decide +kernel, by decide +kernel⟩
def b_ordered : MS := retN (cbN sortLenD (consA (frzM (cbN srtD (consA (varM 0) (nilA)))) (nilA)))
def m_ordered : MS := fnM 1 0 b_ordered
theorem ok_ordered {P : Program} {w : World} {K : PySem.W.Frag} {mg : Str → Option Value} {base : Heap} (T : Txt P K mg) : Has P w K mg base "ordered" 1 ["texts"] m_ordered := by
  exact hasD T.f_ordered sc_ordered rfl rfl (fun _ _ _ _ _ _ us hl => match us, hl with | [_], _ => rfl) (fun f cdv A outer s H hr hg => s_one (s_retN (d_srtLen T.n_sorted T.n_len (a_cons (d_frz (d_srtS rfl hr T.n_sorted T.n_set (a_cons (d_var 0) (a_nil)))) (a_nil)))))
theorem sc_rest : FnScope ["number", "prime"] ["number", "prime"] (defScope s_rest) := ⟨rfl, rfl, rfl, by decide +kernel, rfl, by decide +kernel, by decide +kernel⟩
def b_rest : MS := retM (ifM (bM (binM isNonD (varM 1) (cM .non))) (varM 0) (binM modD (varM 0) (varM 1)))
def m_rest : MS := fnM 2 0 b_rest
theorem ok_rest {P : Program} {w : World} {K : PySem.W.Frag} {mg : Str → Option Value} {base : Heap} (T : Txt P K mg) : Has P w K mg base "rest" 1 ["number", "prime"] m_rest := by
  exact hasD T.f_rest sc_rest rfl rfl (fun _ _ _ _ _ _ us hl => match us, hl with | [_, _], _ => rfl) (fun f cdv A outer s H hr hg => s_one (s_ret (d_if (t_is (d_var 1) (d_non)) (d_var 0) (d_mod (d_var 0) (d_var 1)))))
theorem sc_kept_weights : FnScope ["weights", "prime", "found", "pattern", "number"] ["weights", "prime"] (defScope s_kept_weights) := ⟨rfl, rfl, rfl, by decide +kernel, rfl, by decide +kernel, by decide +kernel⟩
def b_kept_weights : MS := seqM (asgN (dcM (itL (callM m_ordered (consA (frzM (cbN lstKD (consA (varM 0) (nilA)))) (nilA)))) (nameG 3) (yesM) (varM 3) (callM m_rest (consA (binM dgD (varM 0) (varM 3)) (consA (varM 1) (nilA)))) [3]) 2) (retN (dcM (orI (itemsM (varM 2)) (itemsT (varM 2))) (tupG 2 (consG (nameG 3) (consG (nameG 4) (nilG)))) (bM (binM neD (varM 4) (cM (.int 0)))) (varM 3) (varM 4) [3, 4]))
def m_kept_weights : MS := fnM 2 3 b_kept_weights
theorem ok_kept_weights {P : Program} {w : World} {K : PySem.W.Frag} {mg : Str → Option Value} {base : Heap} (T : Txt P K mg) : Has P w K mg base "kept_weights" 2 ["weights", "prime"] m_kept_weights := by
  have h_ordered := ok_ordered (P := P) (w := w) (base := base) T
  have h_rest := ok_rest (P := P) (w := w) (base := base) T
  exact hasD T.f_kept_weights sc_kept_weights rfl rfl (fun _ _ _ _ _ _ us hl => match us, hl with | [_, _], _ => rfl) (fun f cdv A outer s H hr hg => s_cons (s_setDc 2 [("pattern", 3)] rfl sc_kept_weights.nd (i_lst (d_callH h_ordered (hr.mono (by decide)) hg (a_cons (d_frz (d_listK rfl T.n_list (a_cons (d_var 0) (a_nil)))) (a_nil)))) (by kernel_rfl) (fun _ _ _ _ _ => g_name 3 sc_kept_weights.nd) (fun _ _ _ _ _ => c_no) (fun _ _ _ _ _ => d_var 3) (fun _ _ _ _ _ => d_callH h_rest (hr.mono (by decide)) hg (a_cons (d_dget hr (d_var 0) (d_var 3)) (a_cons (d_var 1) (a_nil))))) (s_one (s_retN (d_dc [("pattern", 3), ("number", 4)] rfl sc_kept_weights.nd (i_orI (i_items (d_var 2)) (i_itemsT (d_var 2))) (by kernel_rfl) (fun _ _ _ _ _ => g_tup rfl (gs_cons (g_name 3 sc_kept_weights.nd) (gs_cons (g_name 4 sc_kept_weights.nd) (gs_nil)))) (fun _ _ _ _ _ => c_one (t_ne hr (d_var 4) (d_int))) (fun _ _ _ _ _ => d_var 3) (fun _ _ _ _ _ => d_var 4)))))
theorem sc_is_prime : FnScope ["value"] ["value"] (defScope s_is_prime) := ⟨rfl, rfl, rfl, by decide +kernel, rfl, by decide +kernel, by decide +kernel⟩
def b_is_prime : MS := retM (andV (callM m_is_integer (consA (varM 0) (nilA))) (binM (inD false) (varM 0) (cM c_PRIMES)))
def m_is_prime : MS := fnM 1 0 b_is_prime
theorem ok_is_prime {P : Program} {w : World} {K : PySem.W.Frag} {mg : Str → Option Value} {base : Heap} (T : Txt P K mg) : Has P w K mg base "is_prime" 2 ["value"] m_is_prime := by
  have h_is_integer := ok_is_integer (P := P) (w := w) (base := base) T
  exact hasD T.f_is_prime sc_is_prime rfl rfl (fun _ _ _ _ _ _ us hl => match us, hl with | [_], _ => rfl) (fun f cdv A outer s H hr hg => s_one (s_ret (d_and (d_callH h_is_integer (hr.mono (by decide)) hg (a_cons (d_var 0) (a_nil))) (d_one (d_in hr (d_var 0) (T.c_PRIMES.d))))))
theorem sc_require_kind : FnScope ["value"] ["value"] (defScope s_require_kind) := ⟨rfl, rfl, rfl, by decide +kernel, rfl, by decide +kernel, by decide +kernel⟩
def b_require_kind : MS := ifS (andT (bM (binM notNonD (varM 0) (cM .non))) (notT (bM (callM m_is_prime (consA (varM 0) (nilA)))))) (noM) (nxM)
def m_require_kind : MS := fnM 1 0 b_require_kind
theorem ok_require_kind {P : Program} {w : World} {K : PySem.W.Frag} {mg : Str → Option Value} {base : Heap} (T : Txt P K mg) : Has P w K mg base "require_kind" 4 ["value"] m_require_kind := by
  have h_is_prime := ok_is_prime (P := P) (w := w) (base := base) T
  exact hasD T.f_require_kind sc_require_kind rfl rfl (fun _ _ _ _ _ _ us hl => match us, hl with | [_], _ => rfl) (fun f cdv A outer s H hr hg => s_one (s_if (t_w (w_and (t_isnot (d_var 0) (d_non)) (w_and1 (t_not (t_val (d_callH h_is_prime (hr.mono (by decide)) hg (a_cons (d_var 0) (a_nil)))))))) (s_one (s_never)) (s_nil)))
def bx_require_kind : MX := ifX (andT (bM (binM notNonD (varM 0) (cM .non))) (notT (bM (callM m_is_prime (consA (varM 0) (nilA)))))) (raI "InvalidNumber" "value" okAny (varM 0)) (noX)
def x_require_kind : MX := fnZ 1 0 bx_require_kind
theorem zk_require_kind {P : Program} {w : World} {K : PySem.W.Frag} {mg : Str → Option Value} {base : Heap} (T : Txt P K mg) : HasZ P w K mg base "require_kind" 4 ["value"] x_require_kind := by
  have h_is_prime := ok_is_prime (P := P) (w := w) (base := base) T
  exact hasZ T.f_require_kind sc_require_kind rfl rfl (fun _ _ _ _ _ _ us hl => match us, hl with | [_], _ => rfl) (fun f cdv A outer s H E hr hg tk po => zb_here (zs_if (t_w (w_and (t_isnot (d_var 0) (d_non)) (w_and1 (t_not (t_val (d_callH h_is_prime (hr.mono (by decide)) hg (a_cons (d_var 0) (a_nil)))))))) (zb_here (z_raiseI (k := 0) T.ei_InvalidNumber (hr.mono (by decide)) rfl tk (d_var 0))) (zb_no)))
theorem sc_are_small : FnScope ["text", "sign"] ["text"] (defScope s_are_small) := ⟨rfl, rfl, rfl, by decide +kernel, rfl, by decide +kernel, by decide +kernel⟩
def b_are_small : MS := retM (cbM allD (consA (frzM (cpM (itX (varM 0)) (nameG 1) (yesM) (chM leD leD (cM (.str "a")) (varM 1) (cM (.str "z"))) [1])) (nilA)))
def m_are_small : MS := fnM 1 1 b_are_small
theorem ok_are_small {P : Program} {w : World} {K : PySem.W.Frag} {mg : Str → Option Value} {base : Heap} (T : Txt P K mg) : Has P w K mg base "are_small" 1 ["text"] m_are_small := by
  exact hasD T.f_are_small sc_are_small rfl rfl (fun _ _ _ _ _ _ us hl => match us, hl with | [_], _ => rfl) (fun f cdv A outer s H hr hg => s_one (s_ret (d_all rfl T.n_all (a_cons (d_frz (d_lc [("sign", 1)] rfl sc_are_small.nd (i_any (d_var 0)) (by kernel_rfl) (fun _ _ _ _ _ => g_name 1 sc_are_small.nd) (fun _ _ _ _ _ => c_no) (fun _ _ _ _ _ => d_lele (d_str) (d_var 1) (d_str)))) (a_nil)))))
theorem sc_is_letters : FnScope ["value", "one", "other"] ["value"] (defScope s_is_letters) := ⟨rfl, rfl, rfl, by decide +kernel, rfl, by decide +kernel, by decide +kernel⟩
def b_is_letters : MS := seqM (ifS (orT (notT (bM (unM (isiD "str") (varM 0)))) (orT (notT (bM (chM leD leD (cM (.int 1)) (cbM lenD (consA (varM 0) (nilA))) (cM c_MOST_LETTERS)))) (notT (bM (callM m_are_small (consA (varM 0) (nilA))))))) (retM (cM (.bl false))) (nxM)) (retM (cbM allD (consA (frzM (cpM (itZ (consA (varM 0) (consA (slM cutD (varM 0) (some (cM (.int 1))) none) (nilA)))) (tupG 2 (consG (nameG 1) (consG (nameG 2) (nilG)))) (yesM) (binM ltD (varM 1) (varM 2)) [1, 2])) (nilA))))
def m_is_letters : MS := fnM 1 2 b_is_letters
theorem ok_is_letters {P : Program} {w : World} {K : PySem.W.Frag} {mg : Str → Option Value} {base : Heap} (T : Txt P K mg) : Has P w K mg base "is_letters" 2 ["value"] m_is_letters := by
  have h_are_small := ok_are_small (P := P) (w := w) (base := base) T
  exact hasD T.f_is_letters sc_is_letters rfl rfl (fun _ _ _ _ _ _ us hl => match us, hl with | [_], _ => rfl) (fun f cdv A outer s H hr hg => s_cons (s_if (t_w (w_or (t_not (t_val (d_isi (T := "") T.n_isinstance T.n_str (d_var 0)))) (w_or (t_not (t_lele (d_int) (d_len T.n_len (a_cons (d_var 0) (a_nil))) (T.c_MOST_LETTERS.d))) (w_or1 (t_not (t_val (d_callH h_are_small (hr.mono (by decide)) hg (a_cons (d_var 0) (a_nil))))))))) (s_one (s_ret (d_bl))) (s_nil)) (s_one (s_ret (d_all rfl T.n_all (a_cons (d_frz (d_lc [("one", 1), ("other", 2)] rfl sc_is_letters.nd (i_zip T.n_zip (a_cons (d_var 0) (a_cons (d_sl (d_var 0) (o_at (d_int)) o_no) (a_nil)))) (by kernel_rfl) (fun _ _ _ _ _ => g_tup rfl (gs_cons (g_name 1 sc_is_letters.nd) (gs_cons (g_name 2 sc_is_letters.nd) (gs_nil)))) (fun _ _ _ _ _ => c_no) (fun _ _ _ _ _ => d_lt (d_var 1) (d_var 2)))) (a_nil))))))
theorem sc_require_letters : FnScope ["value"] ["value"] (defScope s_require_letters) := ⟨rfl, rfl, rfl, by decide +kernel, rfl, by decide +kernel, by decide +kernel⟩
def b_require_letters : MS := ifS (notT (bM (callM m_is_letters (consA (varM 0) (nilA))))) (noM) (nxM)
def m_require_letters : MS := fnM 1 0 b_require_letters
theorem ok_require_letters {P : Program} {w : World} {K : PySem.W.Frag} {mg : Str → Option Value} {base : Heap} (T : Txt P K mg) : Has P w K mg base "require_letters" 3 ["value"] m_require_letters := by
  have h_is_letters := ok_is_letters (P := P) (w := w) (base := base) T
  exact hasD T.f_require_letters sc_require_letters rfl rfl (fun _ _ _ _ _ _ us hl => match us, hl with | [_], _ => rfl) (fun f cdv A outer s H hr hg => s_one (s_if (t_not (t_val (d_callH h_is_letters (hr.mono (by decide)) hg (a_cons (d_var 0) (a_nil))))) (s_one (s_never)) (s_nil)))
def bx_require_letters : MX := ifX (notT (bM (callM m_is_letters (consA (varM 0) (nilA))))) (raX "InvalidLetters") (noX)
def x_require_letters : MX := fnZ 1 0 bx_require_letters
theorem zk_require_letters {P : Program} {w : World} {K : PySem.W.Frag} {mg : Str → Option Value} {base : Heap} (T : Txt P K mg) : HasZ P w K mg base "require_letters" 3 ["value"] x_require_letters := by
  have h_is_letters := ok_is_letters (P := P) (w := w) (base := base) T
  exact hasZ T.f_require_letters sc_require_letters rfl rfl (fun _ _ _ _ _ _ us hl => match us, hl with | [_], _ => rfl) (fun f cdv A outer s H E hr hg tk po => zb_here (zs_if (t_not (t_val (d_callH h_is_letters (hr.mono (by decide)) hg (a_cons (d_var 0) (a_nil))))) (zb_here (z_raise T.er_InvalidLetters rfl tk)) (zb_no)))
theorem sc_Sum___init__ : FnScope ["self", "letters", "weights", "prime", "checked", "pattern"] ["self", "letters", "weights", "prime", "checked"] (defScope s_Sum___init__) := ⟨rfl, rfl, rfl, by decide +kernel, rfl, by decide +kernel, by decide +kernel⟩
def b_Sum___init__ : MS := seqM (ifS (bM (varM 4)) (seqM (exM (callM m_require_letters (consA (varM 1) (nilA)))) (seqM (ifS (notT (bM (callM m_are_weights (consA (varM 1) (consA (varM 2) (nilA)))))) (noM) (nxM)) (exM (callM m_require_kind (consA (varM 3) (nilA)))))) (nxM)) (seqM (setFM 0 "Sum" "own_letters" (varM 1)) (seqM (setFM 0 "Sum" "own_prime" (varM 3)) (seqM (setFM 0 "Sum" "own_weights" (callM m_kept_weights (consA (varM 2) (consA (varM 3) (nilA))))) (seqM (setFM 0 "Sum" "own_degree" (maxdM (consA (frzM (cpM (orI (keysM (fldM "Sum" "own_weights" (varM 0))) (keysT (fldM "Sum" "own_weights" (varM 0)))) (nameG 5) (yesM) (cbM lenD (consA (varM 5) (nilA))) [5])) (nilA)) (cM .non))) (ifS (bM (binM gtD (orE (cbM lenD (consA (fldM "Sum" "own_weights" (varM 0)) (nilA))) (cbM lenT (consA (fldM "Sum" "own_weights" (varM 0)) (nilA)))) (cM c_MAX_WEIGHTS))) (noM) (nxM))))))
def m_Sum___init__ : MS := fnM 5 1 b_Sum___init__
theorem bd_Sum___init__ {P : Program} {w : World} {K : PySem.W.Frag} {mg : Str → Option Value} {base : Heap} (T : Txt P K mg) : BodyD P w K mg base 4 ["self", "letters", "weights", "prime", "checked", "pattern"] "Sum.__init__" s_Sum___init__ b_Sum___init__ := by
  have h_are_weights := ok_are_weights (P := P) (w := w) (base := base) T
  have h_kept_weights := ok_kept_weights (P := P) (w := w) (base := base) T
  have h_require_kind := ok_require_kind (P := P) (w := w) (base := base) T
  have h_require_letters := ok_require_letters (P := P) (w := w) (base := base) T
  exact fun f cdv A outer s H hr hg => s_cons (s_if (t_val (d_var 4)) (s_cons (s_expr (d_callH h_require_letters (hr.mono (by decide)) hg (a_cons (d_var 1) (a_nil)))) (s_cons (s_if (t_not (t_val (d_callH h_are_weights (hr.mono (by decide)) hg (a_cons (d_var 1) (a_cons (d_var 2) (a_nil)))))) (s_one (s_never)) (s_nil)) (s_one (s_expr (d_callH h_require_kind (hr.mono (by decide)) hg (a_cons (d_var 3) (a_nil))))))) (s_nil)) (s_cons (s_setF 0 T.k_Sum T.x_Sum_own_letters (d_var 1)) (s_cons (s_setF 0 T.k_Sum T.x_Sum_own_prime (d_var 3)) (s_cons (s_setF 0 T.k_Sum T.x_Sum_own_weights (d_callH h_kept_weights (hr.mono (by decide)) hg (a_cons (d_var 2) (a_cons (d_var 3) (a_nil))))) (s_cons (s_setF 0 T.k_Sum T.x_Sum_own_degree (d_maxd hr rfl T.n_max (a_cons (d_frz (d_lc [("pattern", 5)] rfl sc_Sum___init__.nd (i_orI (i_keys (d_fld T.k_Sum T.x_Sum_own_weights (d_var 0))) (i_keysT (d_fld T.k_Sum T.x_Sum_own_weights (d_var 0)))) (by kernel_rfl) (fun _ _ _ _ _ => g_name 5 sc_Sum___init__.nd) (fun _ _ _ _ _ => c_no) (fun _ _ _ _ _ => d_len T.n_len (a_cons (d_var 5) (a_nil))))) (a_nil)) (d_non))) (s_one (s_if (t_gt (d_orE (d_len T.n_len (a_cons (d_fld T.k_Sum T.x_Sum_own_weights (d_var 0)) (a_nil))) (d_lenT T.n_len (a_cons (d_fld T.k_Sum T.x_Sum_own_weights (d_var 0)) (a_nil)))) (T.c_MAX_WEIGHTS.d)) (s_one (s_never)) (s_nil)))))))
theorem ok_Sum___init__ {P : Program} {w : World} {K : PySem.W.Frag} {mg : Str → Option Value} {base : Heap} (T : Txt P K mg) : HasMK P w K mg base "Sum" "__init__" 5 ["self", "letters", "weights", "prime", "checked"] 3 ["prime", "checked"] [.non, .bl true] m_Sum___init__ := hasMk (nn := 3) T.f_Sum___init__ sc_Sum___init__ rfl rfl (by decide) rfl (fun _ _ _ _ _ _ us ks h1 h2 => match us, h1, ks, h2 with | [_, _, _], _, [_, _], _ => ⟨_, _, _, _, _, _, rfl, rfl, ⟨_, _, _, _, _, _, rfl, rfl, rfl⟩⟩) (fun _ _ _ _ _ _ us ws h1 h2 => match us, h1, ws, h2 with | [_, _, _], _, [_, _], _ => rfl) (bd_Sum___init__ T)
theorem okx1_Sum___init__ {P : Program} {w : World} {K : PySem.W.Frag} {mg : Str → Option Value} {base : Heap} (T : Txt P K mg) : HasMX P w K mg base "Sum" "__init__" 5 ["self", "letters", "weights", "prime", "checked"] 3 ["prime"] [.bl true] m_Sum___init__ := hasMX (nn := 3) T.f_Sum___init__ sc_Sum___init__ rfl rfl (by decide) ["prime"] [("checked", .bl true)] (by decide) (fun _ _ _ _ _ _ us mv ws h1 h2 h3 => match us, h1, mv, h2, ws, h3 with | [_, _, _], _, [_], _, [_], _ => ⟨_, _, _, _, _, _, rfl, rfl, rfl⟩) (bd_Sum___init__ T)
def bx_Sum___init__ : MX := orZ (ifX (bM (varM 4)) (orZ (callZ x_require_letters (consA (varM 1) (nilA))) (thX (exM (callM m_require_letters (consA (varM 1) (nilA)))) (orZ (ifX (notT (bM (callM m_are_weights (consA (varM 1) (consA (varM 2) (nilA)))))) (raX "InvalidOperation") (noX)) (thX (ifS (notT (bM (callM m_are_weights (consA (varM 1) (consA (varM 2) (nilA)))))) (noM) (nxM)) (callZ x_require_kind (consA (varM 3) (nilA))))))) (noX)) (thX (ifS (bM (varM 4)) (seqM (exM (callM m_require_letters (consA (varM 1) (nilA)))) (seqM (ifS (notT (bM (callM m_are_weights (consA (varM 1) (consA (varM 2) (nilA)))))) (noM) (nxM)) (exM (callM m_require_kind (consA (varM 3) (nilA)))))) (nxM)) (thX (setFM 0 "Sum" "own_letters" (varM 1)) (thX (setFM 0 "Sum" "own_prime" (varM 3)) (thX (setFM 0 "Sum" "own_weights" (callM m_kept_weights (consA (varM 2) (consA (varM 3) (nilA))))) (thX (setFM 0 "Sum" "own_degree" (maxdM (consA (frzM (cpM (orI (keysM (fldM "Sum" "own_weights" (varM 0))) (keysT (fldM "Sum" "own_weights" (varM 0)))) (nameG 5) (yesM) (cbM lenD (consA (varM 5) (nilA))) [5])) (nilA)) (cM .non))) (ifX (bM (binM gtD (orE (cbM lenD (consA (fldM "Sum" "own_weights" (varM 0)) (nilA))) (cbM lenT (consA (fldM "Sum" "own_weights" (varM 0)) (nilA)))) (cM c_MAX_WEIGHTS))) (raI "TooMany" "limit" okInt (cM c_MAX_WEIGHTS)) (noX)))))))
def x_Sum___init__ : MX := fnZ 5 1 bx_Sum___init__
theorem zbd_Sum___init__ {P : Program} {w : World} {K : PySem.W.Frag} {mg : Str → Option Value} {base : Heap} (T : Txt P K mg) (f : Addr) : BodyZ P w K mg base 4 ["self", "letters", "weights", "prime", "checked", "pattern"] "Sum.__init__" (defScope s_Sum___init__) f (defBody s_Sum___init__) bx_Sum___init__ := by
  have h_are_weights := ok_are_weights (P := P) (w := w) (base := base) T
  have h_kept_weights := ok_kept_weights (P := P) (w := w) (base := base) T
  have h_require_kind := ok_require_kind (P := P) (w := w) (base := base) T
  have h_require_letters := ok_require_letters (P := P) (w := w) (base := base) T
  have z_require_kind := zk_require_kind (P := P) (w := w) (base := base) T
  have z_require_letters := zk_require_letters (P := P) (w := w) (base := base) T
  exact fun cdv A outer s H E hr hg tk po => zb_both (zs_if (t_val (d_var 4)) (zb_both (zs_expr (z_call z_require_letters (pass_of tk) (hr.mono (by decide)) hg (a_cons (d_var 1) (a_nil)))) (s_expr (d_callH h_require_letters (hr.mono (by decide)) hg (a_cons (d_var 1) (a_nil)))) (zb_both (zs_if (t_not (t_val (d_callH h_are_weights (hr.mono (by decide)) hg (a_cons (d_var 1) (a_cons (d_var 2) (a_nil)))))) (zb_here (z_raise T.er_InvalidOperation rfl tk)) (zb_no)) (s_if (t_not (t_val (d_callH h_are_weights (hr.mono (by decide)) hg (a_cons (d_var 1) (a_cons (d_var 2) (a_nil)))))) (s_one (s_never)) (s_nil)) (zb_here (zs_expr (z_call z_require_kind (pass_of tk) (hr.mono (by decide)) hg (a_cons (d_var 3) (a_nil))))))) (zb_no)) (s_if (t_val (d_var 4)) (s_cons (s_expr (d_callH h_require_letters (hr.mono (by decide)) hg (a_cons (d_var 1) (a_nil)))) (s_cons (s_if (t_not (t_val (d_callH h_are_weights (hr.mono (by decide)) hg (a_cons (d_var 1) (a_cons (d_var 2) (a_nil)))))) (s_one (s_never)) (s_nil)) (s_one (s_expr (d_callH h_require_kind (hr.mono (by decide)) hg (a_cons (d_var 3) (a_nil))))))) (s_nil)) (zb_later (s_setF 0 T.k_Sum T.x_Sum_own_letters (d_var 1)) (zb_later (s_setF 0 T.k_Sum T.x_Sum_own_prime (d_var 3)) (zb_later (s_setF 0 T.k_Sum T.x_Sum_own_weights (d_callH h_kept_weights (hr.mono (by decide)) hg (a_cons (d_var 2) (a_cons (d_var 3) (a_nil))))) (zb_later (s_setF 0 T.k_Sum T.x_Sum_own_degree (d_maxd hr rfl T.n_max (a_cons (d_frz (d_lc [("pattern", 5)] rfl sc_Sum___init__.nd (i_orI (i_keys (d_fld T.k_Sum T.x_Sum_own_weights (d_var 0))) (i_keysT (d_fld T.k_Sum T.x_Sum_own_weights (d_var 0)))) (by kernel_rfl) (fun _ _ _ _ _ => g_name 5 sc_Sum___init__.nd) (fun _ _ _ _ _ => c_no) (fun _ _ _ _ _ => d_len T.n_len (a_cons (d_var 5) (a_nil))))) (a_nil)) (d_non))) (zb_here (zs_if (t_gt (d_orE (d_len T.n_len (a_cons (d_fld T.k_Sum T.x_Sum_own_weights (d_var 0)) (a_nil))) (d_lenT T.n_len (a_cons (d_fld T.k_Sum T.x_Sum_own_weights (d_var 0)) (a_nil)))) (T.c_MAX_WEIGHTS.d)) (zb_here (z_raiseI (k := 0) T.ei_TooMany (hr.mono (by decide)) rfl tk (T.c_MAX_WEIGHTS.d))) (zb_no)))))))
theorem zkx0_Sum___init__ {P : Program} {w : World} {K : PySem.W.Frag} {mg : Str → Option Value} {base : Heap} (T : Txt P K mg) : HasMXZ P w K mg base "Sum" "__init__" 5 ["self", "letters", "weights", "prime", "checked"] 3 [] [.non, .bl true] x_Sum___init__ := hasMXZ (nn := 3) T.f_Sum___init__ sc_Sum___init__ rfl rfl (by decide) [] [("prime", .non), ("checked", .bl true)] (by decide) (fun _ _ _ _ _ _ us mv ws h1 h2 h3 => match us, h1, mv, h2, ws, h3 with | [_, _, _], _, [_, _], _, [], _ => ⟨_, _, _, _, _, _, rfl, rfl, ⟨_, _, _, _, _, _, rfl, rfl, rfl⟩⟩) (zbd_Sum___init__ T)
theorem sc_Sum_weights : FnScope ["self"] ["self"] (defScope s_Sum_weights) := ⟨rfl, rfl, rfl, by decide +kernel, rfl, by decide +kernel, by decide +kernel⟩
def b_Sum_weights : MS := retN (cbN dicC (consA (fldM "Sum" "own_weights" (varM 0)) (nilA)))
def m_Sum_weights : MS := fnM 1 0 b_Sum_weights
theorem ok_Sum_weights {P : Program} {w : World} {K : PySem.W.Frag} {mg : Str → Option Value} {base : Heap} (T : Txt P K mg) : HasP P w K mg base "Sum" "weights" 1 ["self"] m_Sum_weights := by
  exact hasP T.f_Sum_weights sc_Sum_weights rfl rfl (fun _ _ _ _ _ _ us hl => match us, hl with | [_], _ => rfl) (fun f cdv A outer s H hr hg => s_one (s_retN (d_dictC T.n_dict (a_cons (d_fld T.k_Sum T.x_Sum_own_weights (d_var 0)) (a_nil)))))
theorem sc__law_cup : FnScope ["_law_script", "_law_at", "_law_cell", "_law_great", "_law_blend"] ["_law_script", "_law_at"] (defScope s__law_cup) := ⟨rfl, rfl, rfl, by decide +kernel, rfl, by decide +kernel, by decide +kernel⟩
def b__law_cup : MS := seqM (asgM (ifM (bM (binM ltD (varM 1) (cbM lenD (consA (varM 0) (nilA))))) (binM ixD (varM 0) (varM 1)) (binM addD (binM mulI (cM (.int 73)) (varM 1)) (cM (.int 37)))) (nameG 2)) (seqM (asgM (binM modD (cbM intD (consA (cbM absD (consA (varM 2) (nilA))) (nilA))) (binM powD (binM powD (cM (.int 10)) (cM (.int 61))) (cM (.int 11)))) (nameG 3)) (seqM (asgM (binM addD (binM addD (binM addD (binM mulI (binM modD (cbM intD (consA (varM 3) (nilA))) (cM (.int 2147483179))) (cM (.int 99317))) (binM mulI (cM (.int 9431)) (varM 1))) (binM mulI (cM (.int 53)) (cbM intD (consA (binM ltD (varM 2) (cM (.int 0))) (nilA))))) (cM (.int 67))) (nameG 4)) (retN (lstM (consA (cbM maxD (consA (cM (.int 0)) (consA (binM subD (varM 3) (binM powD (cM (.int 10)) (cM (.int 18)))) (nilA)))) (consA (binM modD (cbM intD (consA (varM 4) (nilA))) (cM (.int 2305843009213693907))) (consA (cM (.int 0)) (nilA))))))))
def m__law_cup : MS := fnM 2 3 b__law_cup
theorem ok__law_cup {P : Program} {w : World} {K : PySem.W.Frag} {mg : Str → Option Value} {base : Heap} (T : Txt P K mg) : Has P w K mg base "_law_cup" 1 ["_law_script", "_law_at"] m__law_cup := by
  exact hasD T.f__law_cup sc__law_cup rfl rfl (fun _ _ _ _ _ _ us hl => match us, hl with | [_, _], _ => rfl) (fun f cdv A outer s H hr hg => s_cons (s_set 2 sc__law_cup.nd (d_if (t_lt (d_var 1) (d_len T.n_len (a_cons (d_var 0) (a_nil)))) (d_ix (d_var 0) (d_var 1)) (d_add (d_mul (d_int) (d_var 1)) (d_int)))) (s_cons (s_set 3 sc__law_cup.nd (d_mod (d_intc T.n_int (a_cons (d_abs T.n_abs (a_cons (d_var 2) (a_nil))) (a_nil))) (d_pow (d_pow (d_int) (d_int)) (d_int)))) (s_cons (s_set 4 sc__law_cup.nd (d_add (d_add (d_add (d_mul (d_mod (d_intc T.n_int (a_cons (d_var 3) (a_nil))) (d_int)) (d_int)) (d_mul (d_int) (d_var 1))) (d_mul (d_int) (d_intc T.n_int (a_cons (d_lt (d_var 2) (d_int)) (a_nil))))) (d_int))) (s_one (s_retN (d_lst (a_cons (d_max rfl T.n_max (a_cons (d_int) (a_cons (d_sub (d_var 3) (d_pow (d_int) (d_int))) (a_nil)))) (a_cons (d_mod (d_intc T.n_int (a_cons (d_var 4) (a_nil))) (d_int)) (a_cons (d_int) (a_nil))))))))))
theorem sc__law_met : FnScope ["_law_call", "e"] ["_law_call"] (defScope s__law_met) := ⟨rfl, rfl, rfl, by decide +kernel, rfl, by decide +kernel, by decide +kernel⟩
def cl__law_met : List Clause := [⟨"InvalidLetters", none, (fun _ => some (D.str "letters"))⟩, ⟨"InvalidPattern", none, (fun _ => some (D.str "pattern"))⟩, ⟨"InvalidSum", none, (fun _ => some (D.str "sum"))⟩, ⟨"InvalidOperation", none, (fun _ => some (D.str "operation"))⟩, ⟨"InvalidNumber", some 1, (fun fs => ((fun _ => some (D.str "number ")) fs).bind fun x => ((fun fs => ((fun fs => List.lookup ("value" : Str) fs) fs).bind fun d => reprD [d]) fs).bind fun y => addD x y)⟩, ⟨"TooMany", some 1, (fun fs => ((fun _ => some (D.str "many ")) fs).bind fun x => ((fun fs => ((fun fs => List.lookup ("limit" : Str) fs) fs).bind fun d => reprD [d]) fs).bind fun y => addD x y)⟩]
theorem t__law_met {P : Program} {w : World} {K : PySem.W.Frag} {mg : Str → Option Value} {base : Heap} (T : Txt P K mg) (k : Nat) : HasTry P w K mg base "_law_met" (k + 1) cl__law_met "good" := hasTry T.f__law_met sc__law_met (fun _ _ _ _ _ _ us hl => match us, hl with | [_], _ => rfl) rfl (List.cons_ne_nil _ _) (fun g cdv A outer s H hr hg => ⟨.plain rfl (by decide) (evx_str) (.plain rfl (by decide) (evx_str) (.plain rfl (by decide) (evx_str) (.plain rfl (by decide) (evx_str) (.named rfl (by decide) rfl rfl (evx_add (evx_str) (evx_repr (evx_fld 1) (room_u hr) hg T.n_repr)) (.named rfl (by decide) rfl rfl (evx_add (evx_str) (evx_repr (evx_fld 1) (room_u hr) hg T.n_repr)) (.nil)))))), fun pn xe => rfl⟩)
theorem sc__law_bit : FnScope ["_law_cup_here", "_law_much", "_law_found", "_law_first", "_law_later"] ["_law_cup_here", "_law_much"] (defScope s__law_bit) := ⟨rfl, rfl, rfl, by decide +kernel, rfl, by decide +kernel, by decide +kernel⟩
def b__law_bit : MS := seqM (ifS (bM (binM gtD (binM ixD (varM 0) (cM (.int 0))) (cM (.int 0)))) (seqM (asgM (binM modD (cbM intD (consA (binM ixD (varM 0) (cM (.int 0))) (nilA))) (varM 1)) (nameG 2)) (seqM (setM 0 (binM divD (binM ixD (varM 0) (cM (.int 0))) (varM 1)) (cM (.int 0))) (retM (varM 2)))) (nxM)) (seqM (setM 0 (binM addD (binM ixD (varM 0) (cM (.int 2))) (cM (.int 1))) (cM (.int 2))) (seqM (asgM (binM modD (cbM intD (consA (binM addD (binM ixD (varM 0) (cM (.int 1))) (binM mulI (cM (.int 1000541)) (binM ixD (varM 0) (cM (.int 2))))) (nilA))) (cM (.int 2305843009213693951))) (nameG 3)) (seqM (asgM (binM addD (binM mulI (binM modD (cbM intD (consA (binM mulI (varM 3) (varM 3)) (nilA))) (cM (.int 2305843009213693921))) (varM 3)) (binM mulI (cM (.int 9341)) (binM ixD (varM 0) (cM (.int 2))))) (nameG 4)) (retM (binM modD (cbM intD (consA (binM divD (binM modD (cbM intD (consA (varM 4) (nilA))) (cM (.int 2305843009213693907))) (cM (.int 16384))) (nilA))) (varM 1))))))
def m__law_bit : MS := fnM 2 3 b__law_bit
theorem ok__law_bit {P : Program} {w : World} {K : PySem.W.Frag} {mg : Str → Option Value} {base : Heap} (T : Txt P K mg) : Has P w K mg base "_law_bit" 1 ["_law_cup_here", "_law_much"] m__law_bit := by
  exact hasD T.f__law_bit sc__law_bit rfl rfl (fun _ _ _ _ _ _ us hl => match us, hl with | [_, _], _ => rfl) (fun f cdv A outer s H hr hg => s_cons (s_if (t_gt (d_ix (d_var 0) (d_int)) (d_int)) (s_cons (s_set 2 sc__law_bit.nd (d_mod (d_intc T.n_int (a_cons (d_ix (d_var 0) (d_int)) (a_nil))) (d_var 1))) (s_cons (s_setIx 0 (d_div (d_ix (d_var 0) (d_int)) (d_var 1)) (d_int)) (s_one (s_ret (d_var 2))))) (s_nil)) (s_cons (s_setIx 0 (d_add (d_ix (d_var 0) (d_int)) (d_int)) (d_int)) (s_cons (s_set 3 sc__law_bit.nd (d_mod (d_intc T.n_int (a_cons (d_add (d_ix (d_var 0) (d_int)) (d_mul (d_int) (d_ix (d_var 0) (d_int)))) (a_nil))) (d_int))) (s_cons (s_set 4 sc__law_bit.nd (d_add (d_mul (d_mod (d_intc T.n_int (a_cons (d_mul (d_var 3) (d_var 3)) (a_nil))) (d_int)) (d_var 3)) (d_mul (d_int) (d_ix (d_var 0) (d_int))))) (s_one (s_ret (d_mod (d_intc T.n_int (a_cons (d_div (d_mod (d_intc T.n_int (a_cons (d_var 4) (a_nil))) (d_int)) (d_int)) (a_nil))) (d_var 1))))))))
theorem sc__law_pick : FnScope ["_law_cup_here", "_law_items"] ["_law_cup_here", "_law_items"] (defScope s__law_pick) := ⟨rfl, rfl, rfl, by decide +kernel, rfl, by decide +kernel, by decide +kernel⟩
def b__law_pick : MS := retM (binM ixD (varM 1) (callC 0 m__law_bit (consA (cbM lenD (consA (varM 1) (nilA))) (nilA))))
def m__law_pick : MS := fnM 2 0 b__law_pick
theorem ok__law_pick {P : Program} {w : World} {K : PySem.W.Frag} {mg : Str → Option Value} {base : Heap} (T : Txt P K mg) : Has P w K mg base "_law_pick" 2 ["_law_cup_here", "_law_items"] m__law_pick := by
  have h__law_bit := ok__law_bit (P := P) (w := w) (base := base) T
  exact hasD T.f__law_pick sc__law_pick rfl rfl (fun _ _ _ _ _ _ us hl => match us, hl with | [_, _], _ => rfl) (fun f cdv A outer s H hr hg => s_one (s_ret (d_ix (d_var 1) (d_callCH 0 h__law_bit (hr.mono (by decide)) hg (a_cons (d_len T.n_len (a_cons (d_var 1) (a_nil))) (a_nil))))))
theorem sc_is_integer_within : FnScope ["value", "low", "high"] ["value", "low", "high"] (defScope s_is_integer_within) := ⟨rfl, rfl, rfl, by decide +kernel, rfl, by decide +kernel, by decide +kernel⟩
def b_is_integer_within : MS := retM (andV (callM m_is_integer (consA (varM 0) (nilA))) (chM leD leD (varM 1) (varM 0) (varM 2)))
def m_is_integer_within : MS := fnM 3 0 b_is_integer_within
theorem ok_is_integer_within {P : Program} {w : World} {K : PySem.W.Frag} {mg : Str → Option Value} {base : Heap} (T : Txt P K mg) : Has P w K mg base "is_integer_within" 2 ["value", "low", "high"] m_is_integer_within := by
  have h_is_integer := ok_is_integer (P := P) (w := w) (base := base) T
  exact hasD T.f_is_integer_within sc_is_integer_within rfl rfl (fun _ _ _ _ _ _ us hl => match us, hl with | [_, _, _], _ => rfl) (fun f cdv A outer s H hr hg => s_one (s_ret (d_and (d_callH h_is_integer (hr.mono (by decide)) hg (a_cons (d_var 0) (a_nil))) (d_one (d_lele (d_var 1) (d_var 0) (d_var 2))))))
theorem sc_less : FnScope ["weights", "number"] ["weights", "number"] (defScope s_less) := ⟨rfl, rfl, rfl, by decide +kernel, rfl, by decide +kernel, by decide +kernel⟩
def b_less : MS := retN (dispU (varM 0) [(cM (.str ""), binM subD (getM2 (varM 0) (cM (.str "")) (cM (.int 0))) (varM 1))])
def m_less : MS := fnM 2 0 b_less
theorem ok_less {P : Program} {w : World} {K : PySem.W.Frag} {mg : Str → Option Value} {base : Heap} (T : Txt P K mg) : Has P w K mg base "less" 1 ["weights", "number"] m_less := by
  exact hasD T.f_less sc_less rfl rfl (fun _ _ _ _ _ _ us hl => match us, hl with | [_, _], _ => rfl) (fun f cdv A outer s H hr hg => s_one (s_retN (d_dispU (d_var 0) (p_cons (d_str) (d_sub (d_get2 hr (d_var 0) (d_str) (d_int) ⟨rfl, rfl, rfl, rfl⟩) (d_var 1)) (p_nil)))))
theorem sc_first_row : FnScope ["other", "size"] ["other"] (defScope s_first_row) := ⟨rfl, rfl, rfl, by decide +kernel, rfl, by decide +kernel, by decide +kernel⟩
def b_first_row : MS := retN (dcM (itR1 (consA (binM addD (cbM lenD (consA (varM 0) (nilA))) (cM (.int 1))) (nilA))) (nameG 1) (yesM) (varM 1) (frzM (dispM [(slM cutD (varM 0) none (some (varM 1)), cM (.int 1))])) [1])
def m_first_row : MS := fnM 1 1 b_first_row
theorem ok_first_row {P : Program} {w : World} {K : PySem.W.Frag} {mg : Str → Option Value} {base : Heap} (T : Txt P K mg) : Has P w K mg base "first_row" 1 ["other"] m_first_row := by
  exact hasD T.f_first_row sc_first_row rfl rfl (fun _ _ _ _ _ _ us hl => match us, hl with | [_], _ => rfl) (fun f cdv A outer s H hr hg => s_one (s_retN (d_dc [("size", 1)] rfl sc_first_row.nd (i_rng1 T.n_range (a_cons (d_add (d_len T.n_len (a_cons (d_var 0) (a_nil))) (d_int)) (a_nil))) (by kernel_rfl) (fun _ _ _ _ _ => g_name 1 sc_first_row.nd) (fun _ _ _ _ _ => c_no) (fun _ _ _ _ _ => d_var 1) (fun _ _ _ _ _ => d_frz (d_disp (p_cons (d_sl (d_var 0) o_no (o_at (d_var 1))) (d_int) (p_nil)))))))
theorem sc_put : FnScope ["sums", "pattern", "number"] ["sums", "pattern", "number"] (defScope s_put) := ⟨rfl, rfl, rfl, by decide +kernel, rfl, by decide +kernel, by decide +kernel⟩
def b_put : MS := retN (dispU (varM 0) [(varM 1, binM addX (getM2 (varM 0) (varM 1) (cM (.int 0))) (varM 2))])
def m_put : MS := fnM 3 0 b_put
theorem ok_put {P : Program} {w : World} {K : PySem.W.Frag} {mg : Str → Option Value} {base : Heap} (T : Txt P K mg) : Has P w K mg base "put" 1 ["sums", "pattern", "number"] m_put := by
  exact hasD T.f_put sc_put rfl rfl (fun _ _ _ _ _ _ us hl => match us, hl with | [_, _, _], _ => rfl) (fun f cdv A outer s H hr hg => s_one (s_retN (d_dispU (d_var 0) (p_cons (d_var 1) (d_addX (d_get2 hr (d_var 0) (d_var 1) (d_int) ⟨rfl, rfl, rfl, rfl⟩) (d_var 2)) (p_nil)))))
theorem sc_with_letter : FnScope ["sums", "others", "letter", "pattern", "number"] ["sums", "others", "letter"] (defScope s_with_letter) := ⟨rfl, rfl, rfl, by decide +kernel, rfl, by decide +kernel, by decide +kernel⟩
def b_with_letter : MS := seqM (forM (orI (itemsM (varM 1)) (itemsT (varM 1))) (tupG 2 (consG (nameG 3) (consG (nameG 4) (nilG)))) (asgM (callM m_put (consA (varM 0) (consA (binM addX (varM 3) (varM 2)) (consA (varM 4) (nilA))))) (nameG 0))) (retM (varM 0))
def m_with_letter : MS := fnM 3 2 b_with_letter
theorem ok_with_letter {P : Program} {w : World} {K : PySem.W.Frag} {mg : Str → Option Value} {base : Heap} (T : Txt P K mg) : Has P w K mg base "with_letter" 2 ["sums", "others", "letter"] m_with_letter := by
  have h_put := ok_put (P := P) (w := w) (base := base) T
  exact hasD T.f_with_letter sc_with_letter rfl rfl (fun _ _ _ _ _ _ us hl => match us, hl with | [_, _, _], _ => rfl) (fun f cdv A outer s H hr hg => s_cons (s_for rfl (i_orI (i_items (d_var 1)) (i_itemsT (d_var 1))) (g_tup rfl (gs_cons (g_name 3 sc_with_letter.nd) (gs_cons (g_name 4 sc_with_letter.nd) (gs_nil)))) (s_one (s_set 0 sc_with_letter.nd (d_callH h_put (hr.mono (by decide)) hg (a_cons (d_var 0) (a_cons (d_addX (d_var 3) (d_var 2)) (a_cons (d_var 4) (a_nil))))))) PassesOwn.never) (s_one (s_ret (d_var 0))))
theorem sc_next_row : FnScope ["row", "one", "size", "other", "letter", "later", "at", "found"] ["row", "one", "size", "other"] (defScope s_next_row) := ⟨rfl, rfl, rfl, by decide +kernel, rfl, by decide +kernel, by decide +kernel⟩
def b_next_row : MS := seqM (parM 4 5 (consA (binM ixD (varM 1) (binM subD (varM 2) (cM (.int 1)))) (consA (frzM (dispM [(cM (.int 0), frzM (dispM [(slM cutD (varM 1) none (some (varM 2)), cM (.int 1))]))])) (nilA)))) (seqM (forM (itR2 (consA (cM (.int 1)) (consA (binM addD (cbM lenD (consA (varM 3) (nilA))) (cM (.int 1))) (nilA)))) (nameG 6) (seqM (asgM (callM m_with_letter (consA (callM m_with_letter (consA (frzM (newD)) (consA (binM dgD (varM 0) (varM 6)) (consA (varM 4) (nilA))))) (consA (binM dgD (varM 5) (binM subD (varM 6) (cM (.int 1)))) (consA (binM ixD (varM 3) (binM subD (varM 6) (cM (.int 1)))) (nilA))))) (nameG 7)) (seqM (ifS (bM (binM eqS (varM 4) (binM ixD (varM 3) (binM subD (varM 6) (cM (.int 1)))))) (asgM (callM m_with_letter (consA (varM 7) (consA (binM dgD (varM 0) (binM subD (varM 6) (cM (.int 1)))) (consA (varM 4) (nilA))))) (nameG 7)) (nxM)) (asgM (frzM (dispU (varM 5) [(varM 6, varM 7)])) (nameG 5))))) (retM (varM 5)))
def m_next_row : MS := fnM 4 4 b_next_row
theorem ok_next_row {P : Program} {w : World} {K : PySem.W.Frag} {mg : Str → Option Value} {base : Heap} (T : Txt P K mg) : Has P w K mg base "next_row" 3 ["row", "one", "size", "other"] m_next_row := by
  have h_with_letter := ok_with_letter (P := P) (w := w) (base := base) T
  exact hasD T.f_next_row sc_next_row rfl rfl (fun _ _ _ _ _ _ us hl => match us, hl with | [_, _, _, _], _ => rfl) (fun f cdv A outer s H hr hg => s_cons (s_par 4 5 rfl sc_next_row.nd (a_cons (d_ix (d_var 1) (d_sub (d_var 2) (d_int))) (a_cons (d_frz (d_disp (p_cons (d_int) (d_frz (d_disp (p_cons (d_sl (d_var 1) o_no (o_at (d_var 2))) (d_int) (p_nil)))) (p_nil)))) (a_nil)))) (s_cons (s_for rfl (i_rng2 T.n_range (a_cons (d_int) (a_cons (d_add (d_len T.n_len (a_cons (d_var 3) (a_nil))) (d_int)) (a_nil)))) (g_name 6 sc_next_row.nd) (s_cons (s_set 7 sc_next_row.nd (d_callH h_with_letter (hr.mono (by decide)) hg (a_cons (d_callH h_with_letter (hr.mono (by decide)) hg (a_cons (d_frz (d_dnew)) (a_cons (d_dget hr (d_var 0) (d_var 6)) (a_cons (d_var 4) (a_nil))))) (a_cons (d_dget hr (d_var 5) (d_sub (d_var 6) (d_int))) (a_cons (d_ix (d_var 3) (d_sub (d_var 6) (d_int))) (a_nil)))))) (s_cons (s_if (t_eqS (d_var 4) (d_ix (d_var 3) (d_sub (d_var 6) (d_int)))) (s_one (s_set 7 sc_next_row.nd (d_callH h_with_letter (hr.mono (by decide)) hg (a_cons (d_var 7) (a_cons (d_dget hr (d_var 0) (d_sub (d_var 6) (d_int))) (a_cons (d_var 4) (a_nil))))))) (s_nil)) (s_one (s_set 5 sc_next_row.nd (d_frz (d_dispU (d_var 5) (p_cons (d_var 6) (d_var 7) (p_nil)))))))) PassesOwn.never) (s_one (s_ret (d_var 5)))))
theorem sc_overlays_of : FnScope ["one", "other", "row", "size"] ["one", "other"] (defScope s_overlays_of) := ⟨rfl, rfl, rfl, by decide +kernel, rfl, by decide +kernel, by decide +kernel⟩
def b_overlays_of : MS := seqM (asgM (callM m_first_row (consA (varM 1) (nilA))) (nameG 2)) (seqM (forM (itR2 (consA (cM (.int 1)) (consA (binM addD (cbM lenD (consA (varM 0) (nilA))) (cM (.int 1))) (nilA)))) (nameG 3) (asgM (callM m_next_row (consA (varM 2) (consA (varM 0) (consA (varM 3) (consA (varM 1) (nilA)))))) (nameG 2))) (retM (binM dgD (varM 2) (cbM lenD (consA (varM 1) (nilA))))))
def m_overlays_of : MS := fnM 2 2 b_overlays_of
theorem ok_overlays_of {P : Program} {w : World} {K : PySem.W.Frag} {mg : Str → Option Value} {base : Heap} (T : Txt P K mg) : Has P w K mg base "overlays_of" 4 ["one", "other"] m_overlays_of := by
  have h_first_row := ok_first_row (P := P) (w := w) (base := base) T
  have h_next_row := ok_next_row (P := P) (w := w) (base := base) T
  exact hasD T.f_overlays_of sc_overlays_of rfl rfl (fun _ _ _ _ _ _ us hl => match us, hl with | [_, _], _ => rfl) (fun f cdv A outer s H hr hg => s_cons (s_set 2 sc_overlays_of.nd (d_callH h_first_row (hr.mono (by decide)) hg (a_cons (d_var 1) (a_nil)))) (s_cons (s_for rfl (i_rng2 T.n_range (a_cons (d_int) (a_cons (d_add (d_len T.n_len (a_cons (d_var 0) (a_nil))) (d_int)) (a_nil)))) (g_name 3 sc_overlays_of.nd) (s_one (s_set 2 sc_overlays_of.nd (d_callH h_next_row (hr.mono (by decide)) hg (a_cons (d_var 2) (a_cons (d_var 0) (a_cons (d_var 3) (a_cons (d_var 1) (a_nil)))))))) PassesOwn.never) (s_one (s_ret (d_dget hr (d_var 2) (d_len T.n_len (a_cons (d_var 1) (a_nil))))))))
theorem sc_with_overlays : FnScope ["sums", "one", "other", "number", "pattern", "many"] ["sums", "one", "other", "number"] (defScope s_with_overlays) := ⟨rfl, rfl, rfl, by decide +kernel, rfl, by decide +kernel, by decide +kernel⟩
def b_with_overlays : MS := seqM (forM (orI (itemsM (callM m_overlays_of (consA (varM 1) (consA (varM 2) (nilA))))) (itemsT (callM m_overlays_of (consA (varM 1) (consA (varM 2) (nilA)))))) (tupG 2 (consG (nameG 4) (consG (nameG 5) (nilG)))) (asgM (callM m_put (consA (varM 0) (consA (varM 4) (consA (binM mulI (varM 3) (varM 5)) (nilA))))) (nameG 0))) (retM (varM 0))
def m_with_overlays : MS := fnM 4 2 b_with_overlays
theorem ok_with_overlays {P : Program} {w : World} {K : PySem.W.Frag} {mg : Str → Option Value} {base : Heap} (T : Txt P K mg) : Has P w K mg base "with_overlays" 5 ["sums", "one", "other", "number"] m_with_overlays := by
  have h_overlays_of := ok_overlays_of (P := P) (w := w) (base := base) T
  have h_put := ok_put (P := P) (w := w) (base := base) T
  exact hasD T.f_with_overlays sc_with_overlays rfl rfl (fun _ _ _ _ _ _ us hl => match us, hl with | [_, _, _, _], _ => rfl) (fun f cdv A outer s H hr hg => s_cons (s_for rfl (i_orI (i_items (d_callH h_overlays_of (hr.mono (by decide)) hg (a_cons (d_var 1) (a_cons (d_var 2) (a_nil))))) (i_itemsT (d_callH h_overlays_of (hr.mono (by decide)) hg (a_cons (d_var 1) (a_cons (d_var 2) (a_nil)))))) (g_tup rfl (gs_cons (g_name 4 sc_with_overlays.nd) (gs_cons (g_name 5 sc_with_overlays.nd) (gs_nil)))) (s_one (s_set 0 sc_with_overlays.nd (d_callH h_put (hr.mono (by decide)) hg (a_cons (d_var 0) (a_cons (d_var 4) (a_cons (d_mul (d_var 3) (d_var 5)) (a_nil))))))) PassesOwn.never) (s_one (s_ret (d_var 0))))
theorem sc_product_of : FnScope ["weights", "others", "found", "one", "number", "other", "many"] ["weights", "others"] (defScope s_product_of) := ⟨rfl, rfl, rfl, by decide +kernel, rfl, by decide +kernel, by decide +kernel⟩
def b_product_of : MS := seqM (asgM (frzM (newD)) (nameG 2)) (seqM (forM (orI (itemsM (varM 0)) (itemsT (varM 0))) (tupG 2 (consG (nameG 3) (consG (nameG 4) (nilG)))) (forM (orI (itemsM (varM 1)) (itemsT (varM 1))) (tupG 2 (consG (nameG 5) (consG (nameG 6) (nilG)))) (asgM (callM m_with_overlays (consA (varM 2) (consA (varM 3) (consA (varM 5) (consA (binM mulI (varM 4) (varM 6)) (nilA)))))) (nameG 2)))) (retM (varM 2)))
def m_product_of : MS := fnM 2 5 b_product_of
theorem ok_product_of {P : Program} {w : World} {K : PySem.W.Frag} {mg : Str → Option Value} {base : Heap} (T : Txt P K mg) : Has P w K mg base "product_of" 6 ["weights", "others"] m_product_of := by
  have h_with_overlays := ok_with_overlays (P := P) (w := w) (base := base) T
  exact hasD T.f_product_of sc_product_of rfl rfl (fun _ _ _ _ _ _ us hl => match us, hl with | [_, _], _ => rfl) (fun f cdv A outer s H hr hg => s_cons (s_set 2 sc_product_of.nd (d_frz (d_dnew))) (s_cons (s_for rfl (i_orI (i_items (d_var 0)) (i_itemsT (d_var 0))) (g_tup rfl (gs_cons (g_name 3 sc_product_of.nd) (gs_cons (g_name 4 sc_product_of.nd) (gs_nil)))) (s_one (s_for rfl (i_orI (i_items (d_var 1)) (i_itemsT (d_var 1))) (g_tup rfl (gs_cons (g_name 5 sc_product_of.nd) (gs_cons (g_name 6 sc_product_of.nd) (gs_nil)))) (s_one (s_set 2 sc_product_of.nd (d_callH h_with_overlays (hr.mono (by decide)) hg (a_cons (d_var 2) (a_cons (d_var 3) (a_cons (d_var 5) (a_cons (d_mul (d_var 4) (d_var 6)) (a_nil)))))))) PassesOwn.never)) PassesOwn.never) (s_one (s_ret (d_var 2)))))
theorem sc_require_degree : FnScope ["degree"] ["degree"] (defScope s_require_degree) := ⟨rfl, rfl, rfl, by decide +kernel, rfl, by decide +kernel, by decide +kernel⟩
def b_require_degree : MS := ifS (bM (binM gtD (varM 0) (cM c_MAX_DEGREE))) (noM) (nxM)
def m_require_degree : MS := fnM 1 0 b_require_degree
theorem ok_require_degree {P : Program} {w : World} {K : PySem.W.Frag} {mg : Str → Option Value} {base : Heap} (T : Txt P K mg) : Has P w K mg base "require_degree" 4 ["degree"] m_require_degree := by
  exact hasD T.f_require_degree sc_require_degree rfl rfl (fun _ _ _ _ _ _ us hl => match us, hl with | [_], _ => rfl) (fun f cdv A outer s H hr hg => s_one (s_if (t_gt (d_var 0) (T.c_MAX_DEGREE.d)) (s_one (s_never)) (s_nil)))
def bx_require_degree : MX := ifX (bM (binM gtD (varM 0) (cM c_MAX_DEGREE))) (raI "TooMany" "limit" okInt (cM c_MAX_DEGREE)) (noX)
def x_require_degree : MX := fnZ 1 0 bx_require_degree
theorem zk_require_degree {P : Program} {w : World} {K : PySem.W.Frag} {mg : Str → Option Value} {base : Heap} (T : Txt P K mg) : HasZ P w K mg base "require_degree" 4 ["degree"] x_require_degree := by
  exact hasZ T.f_require_degree sc_require_degree rfl rfl (fun _ _ _ _ _ _ us hl => match us, hl with | [_], _ => rfl) (fun f cdv A outer s H E hr hg tk po => zb_here (zs_if (t_gt (d_var 0) (T.c_MAX_DEGREE.d)) (zb_here (z_raiseI (k := 0) T.ei_TooMany (hr.mono (by decide)) rfl tk (T.c_MAX_DEGREE.d))) (zb_no)))
theorem sc_require_sum : FnScope ["value"] ["value"] (defScope s_require_sum) := ⟨rfl, rfl, rfl, by decide +kernel, rfl, by decide +kernel, by decide +kernel⟩
def b_require_sum : MS := ifS (notT (bM (unM (isoD "Sum") (varM 0)))) (noM) (nxM)
def m_require_sum : MS := fnM 1 0 b_require_sum
theorem ok_require_sum {P : Program} {w : World} {K : PySem.W.Frag} {mg : Str → Option Value} {base : Heap} (T : Txt P K mg) : Has P w K mg base "require_sum" 1 ["value"] m_require_sum := by
  exact hasD T.f_require_sum sc_require_sum rfl rfl (fun _ _ _ _ _ _ us hl => match us, hl with | [_], _ => rfl) (fun f cdv A outer s H hr hg => s_one (s_if (t_not (t_val (d_iso T.n_isinstance T.io_Sum (d_var 0)))) (s_one (s_never)) (s_nil)))
def bx_require_sum : MX := ifX (notT (bM (unM (isoD "Sum") (varM 0)))) (raX "InvalidSum") (noX)
def x_require_sum : MX := fnZ 1 0 bx_require_sum
theorem zk_require_sum {P : Program} {w : World} {K : PySem.W.Frag} {mg : Str → Option Value} {base : Heap} (T : Txt P K mg) : HasZ P w K mg base "require_sum" 1 ["value"] x_require_sum := by
  exact hasZ T.f_require_sum sc_require_sum rfl rfl (fun _ _ _ _ _ _ us hl => match us, hl with | [_], _ => rfl) (fun f cdv A outer s H E hr hg tk po => zb_here (zs_if (t_not (t_val (d_iso T.n_isinstance T.io_Sum (d_var 0)))) (zb_here (z_raise T.er_InvalidSum rfl tk)) (zb_no)))
theorem sc_sum_with : FnScope ["letters", "weights", "prime"] ["letters", "weights", "prime"] (defScope s_sum_with) := ⟨rfl, rfl, rfl, by decide +kernel, rfl, by decide +kernel, by decide +kernel⟩
def b_sum_with : MS := retM (makM "Sum" m_Sum___init__ (apA (consA (varM 0) (consA (varM 1) (nilA))) (consA (varM 2) (consA (cM (.bl false)) (nilA)))))
def m_sum_with : MS := fnM 3 0 b_sum_with
theorem ok_sum_with {P : Program} {w : World} {K : PySem.W.Frag} {mg : Str → Option Value} {base : Heap} (T : Txt P K mg) : Has P w K mg base "sum_with" 7 ["letters", "weights", "prime"] m_sum_with := by
  have h_Sum___init__ := ok_Sum___init__ (P := P) (w := w) (base := base) T
  exact hasD T.f_sum_with sc_sum_with rfl rfl (fun _ _ _ _ _ _ us hl => match us, hl with | [_, _, _], _ => rfl) (fun f cdv A outer s H hr hg => s_one (s_ret (d_makeK h_Sum___init__ T.mk_Sum (hr.mono (by decide)) hg (a_cons (d_var 0) (a_cons (d_var 1) (a_nil))) (k_cons (d_var 2) (k_cons (d_bl) (k_nil))) (len_cons (len_cons (fun _ _ _ h => len_nil h))))))
theorem sc_binomial_of : FnScope ["total", "size", "found", "at", "pattern", "number"] ["total", "size"] (defScope s_binomial_of) := ⟨rfl, rfl, rfl, by decide +kernel, rfl, by decide +kernel, by decide +kernel⟩
def b_binomial_of : MS := seqM (exM (callM m_require_sum (consA (varM 0) (nilA)))) (seqM (ifS (notT (bM (callM m_is_integer_within (consA (varM 1) (consA (cM (.int 0)) (consA (cM c_MAX_SIZE) (nilA))))))) (noM) (nxM)) (seqM (ifS (bM (binM notNonD (fldM "Sum" "own_prime" (varM 0)) (cM .non))) (noM) (nxM)) (seqM (exM (callM m_require_degree (consA (binM mulX (varM 1) (orG (fldM "Sum" "own_degree" (varM 0)) (cM (.int 0)))) (nilA)))) (seqM (asgM (frzM (dispM [(cM (.str ""), cM (.int 1))])) (nameG 2)) (seqM (forM (itR1 (consA (varM 1) (nilA))) (nameG 3) (seqM (asgM (callM m_product_of (consA (varM 2) (consA (callM m_less (consA (fldM "Sum" "own_weights" (varM 0)) (consA (varM 3) (nilA)))) (nilA)))) (nameG 2)) (asgN (dcM (orI (itemsM (varM 2)) (itemsT (varM 2))) (tupG 2 (consG (nameG 4) (consG (nameG 5) (nilG)))) (yesM) (varM 4) (binM divD (varM 5) (binM addD (varM 3) (cM (.int 1)))) [4, 5]) 2))) (retM (callM m_sum_with (consA (fldM "Sum" "own_letters" (varM 0)) (consA (varM 2) (consA (cM .non) (nilA)))))))))))
def m_binomial_of : MS := fnM 2 4 b_binomial_of
theorem ok_binomial_of {P : Program} {w : World} {K : PySem.W.Frag} {mg : Str → Option Value} {base : Heap} (T : Txt P K mg) : Has P w K mg base "binomial_of" 8 ["total", "size"] m_binomial_of := by
  have h_is_integer_within := ok_is_integer_within (P := P) (w := w) (base := base) T
  have h_less := ok_less (P := P) (w := w) (base := base) T
  have h_product_of := ok_product_of (P := P) (w := w) (base := base) T
  have h_require_degree := ok_require_degree (P := P) (w := w) (base := base) T
  have h_require_sum := ok_require_sum (P := P) (w := w) (base := base) T
  have h_sum_with := ok_sum_with (P := P) (w := w) (base := base) T
  exact hasD T.f_binomial_of sc_binomial_of rfl rfl (fun _ _ _ _ _ _ us hl => match us, hl with | [_, _], _ => rfl) (fun f cdv A outer s H hr hg => s_cons (s_expr (d_callH h_require_sum (hr.mono (by decide)) hg (a_cons (d_var 0) (a_nil)))) (s_cons (s_if (t_not (t_val (d_callH h_is_integer_within (hr.mono (by decide)) hg (a_cons (d_var 1) (a_cons (d_int) (a_cons (T.c_MAX_SIZE.d) (a_nil))))))) (s_one (s_never)) (s_nil)) (s_cons (s_if (t_isnot (d_fld T.k_Sum T.x_Sum_own_prime (d_var 0)) (d_non)) (s_one (s_never)) (s_nil)) (s_cons (s_expr (d_callH h_require_degree (hr.mono (by decide)) hg (a_cons (d_mulX (d_var 1) (d_orG (d_fld T.k_Sum T.x_Sum_own_degree (d_var 0)) (d_one (d_int)))) (a_nil)))) (s_cons (s_set 2 sc_binomial_of.nd (d_frz (d_disp (p_cons (d_str) (d_int) (p_nil))))) (s_cons (s_for rfl (i_rng1 T.n_range (a_cons (d_var 1) (a_nil))) (g_name 3 sc_binomial_of.nd) (s_cons (s_set 2 sc_binomial_of.nd (d_callH h_product_of (hr.mono (by decide)) hg (a_cons (d_var 2) (a_cons (d_callH h_less (hr.mono (by decide)) hg (a_cons (d_fld T.k_Sum T.x_Sum_own_weights (d_var 0)) (a_cons (d_var 3) (a_nil)))) (a_nil))))) (s_one (s_setDc 2 [("pattern", 4), ("number", 5)] rfl sc_binomial_of.nd (i_orI (i_items (d_var 2)) (i_itemsT (d_var 2))) (by kernel_rfl) (fun _ _ _ _ _ => g_tup rfl (gs_cons (g_name 4 sc_binomial_of.nd) (gs_cons (g_name 5 sc_binomial_of.nd) (gs_nil)))) (fun _ _ _ _ _ => c_no) (fun _ _ _ _ _ => d_var 4) (fun _ _ _ _ _ => d_div (d_var 5) (d_add (d_var 3) (d_int)))))) PassesOwn.never) (s_one (s_ret (d_callH h_sum_with (hr.mono (by decide)) hg (a_cons (d_fld T.k_Sum T.x_Sum_own_letters (d_var 0)) (a_cons (d_var 2) (a_cons (d_non) (a_nil)))))))))))))
def bx_binomial_of : MX := orZ (callZ x_require_sum (consA (varM 0) (nilA))) (thX (exM (callM m_require_sum (consA (varM 0) (nilA)))) (orZ (ifX (notT (bM (callM m_is_integer_within (consA (varM 1) (consA (cM (.int 0)) (consA (cM c_MAX_SIZE) (nilA))))))) (raI "InvalidNumber" "value" okAny (varM 1)) (noX)) (thX (ifS (notT (bM (callM m_is_integer_within (consA (varM 1) (consA (cM (.int 0)) (consA (cM c_MAX_SIZE) (nilA))))))) (noM) (nxM)) (orZ (ifX (bM (binM notNonD (fldM "Sum" "own_prime" (varM 0)) (cM .non))) (raX "InvalidOperation") (noX)) (thX (ifS (bM (binM notNonD (fldM "Sum" "own_prime" (varM 0)) (cM .non))) (noM) (nxM)) (callZ x_require_degree (consA (binM mulX (varM 1) (orG (fldM "Sum" "own_degree" (varM 0)) (cM (.int 0)))) (nilA))))))))
def x_binomial_of : MX := fnZ 2 4 bx_binomial_of
theorem zk_binomial_of {P : Program} {w : World} {K : PySem.W.Frag} {mg : Str → Option Value} {base : Heap} (T : Txt P K mg) : HasZ P w K mg base "binomial_of" 8 ["total", "size"] x_binomial_of := by
  have h_is_integer_within := ok_is_integer_within (P := P) (w := w) (base := base) T
  have h_less := ok_less (P := P) (w := w) (base := base) T
  have h_product_of := ok_product_of (P := P) (w := w) (base := base) T
  have h_require_degree := ok_require_degree (P := P) (w := w) (base := base) T
  have h_require_sum := ok_require_sum (P := P) (w := w) (base := base) T
  have h_sum_with := ok_sum_with (P := P) (w := w) (base := base) T
  have z_require_degree := zk_require_degree (P := P) (w := w) (base := base) T
  have z_require_sum := zk_require_sum (P := P) (w := w) (base := base) T
  exact hasZ T.f_binomial_of sc_binomial_of rfl rfl (fun _ _ _ _ _ _ us hl => match us, hl with | [_, _], _ => rfl) (fun f cdv A outer s H E hr hg tk po => zb_both (zs_expr (z_call z_require_sum (pass_of tk) (hr.mono (by decide)) hg (a_cons (d_var 0) (a_nil)))) (s_expr (d_callH h_require_sum (hr.mono (by decide)) hg (a_cons (d_var 0) (a_nil)))) (zb_both (zs_if (t_not (t_val (d_callH h_is_integer_within (hr.mono (by decide)) hg (a_cons (d_var 1) (a_cons (d_int) (a_cons (T.c_MAX_SIZE.d) (a_nil))))))) (zb_here (z_raiseI (k := 0) T.ei_InvalidNumber (hr.mono (by decide)) rfl tk (d_var 1))) (zb_no)) (s_if (t_not (t_val (d_callH h_is_integer_within (hr.mono (by decide)) hg (a_cons (d_var 1) (a_cons (d_int) (a_cons (T.c_MAX_SIZE.d) (a_nil))))))) (s_one (s_never)) (s_nil)) (zb_both (zs_if (t_isnot (d_fld T.k_Sum T.x_Sum_own_prime (d_var 0)) (d_non)) (zb_here (z_raise T.er_InvalidOperation rfl tk)) (zb_no)) (s_if (t_isnot (d_fld T.k_Sum T.x_Sum_own_prime (d_var 0)) (d_non)) (s_one (s_never)) (s_nil)) (zb_here (zs_expr (z_call z_require_degree (pass_of tk) (hr.mono (by decide)) hg (a_cons (d_mulX (d_var 1) (d_orG (d_fld T.k_Sum T.x_Sum_own_degree (d_var 0)) (d_one (d_int)))) (a_nil))))))))
theorem sc_is_text_within : FnScope ["letters", "value", "sign"] ["letters", "value"] (defScope s_is_text_within) := ⟨rfl, rfl, rfl, by decide +kernel, rfl, by decide +kernel, by decide +kernel⟩
def b_is_text_within : MS := retM (andV (unM (isiD "str") (varM 1)) (andV (binM leD (cbM lenD (consA (varM 1) (nilA))) (cM c_MAX_TEXT)) (cbM allD (consA (frzM (cpM (itS (varM 1)) (nameG 2) (yesM) (binM (inD false) (varM 2) (varM 0)) [2])) (nilA)))))
def m_is_text_within : MS := fnM 2 1 b_is_text_within
theorem ok_is_text_within {P : Program} {w : World} {K : PySem.W.Frag} {mg : Str → Option Value} {base : Heap} (T : Txt P K mg) : Has P w K mg base "is_text_within" 1 ["letters", "value"] m_is_text_within := by
  exact hasD T.f_is_text_within sc_is_text_within rfl rfl (fun _ _ _ _ _ _ us hl => match us, hl with | [_, _], _ => rfl) (fun f cdv A outer s H hr hg => s_one (s_ret (d_and (d_isi (T := "") T.n_isinstance T.n_str (d_var 1)) (d_and (d_le (d_len T.n_len (a_cons (d_var 1) (a_nil))) (T.c_MAX_TEXT.d)) (d_one (d_all rfl T.n_all (a_cons (d_frz (d_lc [("sign", 2)] rfl sc_is_text_within.nd (i_str (d_var 1)) (by kernel_rfl) (fun _ _ _ _ _ => g_name 2 sc_is_text_within.nd) (fun _ _ _ _ _ => c_no) (fun _ _ _ _ _ => d_in hr (d_var 2) (d_var 0)))) (a_nil))))))))
theorem sc_are_images : FnScope ["letters", "value", "text", "name"] ["letters", "value"] (defScope s_are_images) := ⟨rfl, rfl, rfl, by decide +kernel, rfl, by decide +kernel, by decide +kernel⟩
def b_are_images : MS := seqM (ifS (orT (notT (bM (unM (isiD "dict") (varM 1)))) (notT (bM (chM leD leD (cM (.int 1)) (orE (cbM lenD (consA (varM 1) (nilA))) (cbM lenT (consA (varM 1) (nilA)))) (cM (.int 3)))))) (retM (cM (.bl false))) (nxM)) (seqM (ifS (notT (bM (cbM allD (consA (frzM (cpM (orI (keysM (varM 1)) (orI (keysT (varM 1)) (itX (varM 1)))) (nameG 3) (yesM) (andV (unM (isiD "str") (varM 3)) (andV (binM eqI (cbM lenD (consA (varM 3) (nilA))) (cM (.int 1))) (chM leD leD (cM (.str "a")) (varM 3) (cM (.str "z"))))) [3])) (nilA))))) (retM (cM (.bl false))) (nxM)) (retM (cbM allD (consA (frzM (cpM (orI (valuesM (varM 1)) (valuesT (varM 1))) (nameG 2) (yesM) (andV (callM m_is_text_within (consA (varM 0) (consA (varM 2) (nilA)))) (binM leD (cbM lenD (consA (varM 2) (nilA))) (cM c_MAX_IMAGE))) [2])) (nilA)))))
def m_are_images : MS := fnM 2 2 b_are_images
theorem ok_are_images {P : Program} {w : World} {K : PySem.W.Frag} {mg : Str → Option Value} {base : Heap} (T : Txt P K mg) : Has P w K mg base "are_images" 2 ["letters", "value"] m_are_images := by
  have h_is_text_within := ok_is_text_within (P := P) (w := w) (base := base) T
  exact hasD T.f_are_images sc_are_images rfl rfl (fun _ _ _ _ _ _ us hl => match us, hl with | [_, _], _ => rfl) (fun f cdv A outer s H hr hg => s_cons (s_if (t_w (w_or (t_not (t_val (d_isi (T := "") T.n_isinstance T.n_dict (d_var 1)))) (w_or1 (t_not (t_lele (d_int) (d_orE (d_len T.n_len (a_cons (d_var 1) (a_nil))) (d_lenT T.n_len (a_cons (d_var 1) (a_nil)))) (d_int)))))) (s_one (s_ret (d_bl))) (s_nil)) (s_cons (s_if (t_not (t_val (d_all rfl T.n_all (a_cons (d_frz (d_lc [("name", 3)] rfl sc_are_images.nd (i_orI (i_keys (d_var 1)) (i_orI (i_keysT (d_var 1)) (i_any (d_var 1)))) (by kernel_rfl) (fun _ _ _ _ _ => g_name 3 sc_are_images.nd) (fun _ _ _ _ _ => c_no) (fun _ _ _ _ _ => d_and (d_isi (T := "") T.n_isinstance T.n_str (d_var 3)) (d_and (d_eqI (d_len T.n_len (a_cons (d_var 3) (a_nil))) (d_int)) (d_one (d_lele (d_str) (d_var 3) (d_str))))))) (a_nil))))) (s_one (s_ret (d_bl))) (s_nil)) (s_one (s_ret (d_all rfl T.n_all (a_cons (d_frz (d_lc [("text", 2)] rfl sc_are_images.nd (i_orI (i_values (d_var 1)) (i_valuesT (d_var 1))) (by kernel_rfl) (fun _ _ _ _ _ => g_name 2 sc_are_images.nd) (fun _ _ _ _ _ => c_no) (fun _ _ _ _ _ => d_and (d_callH h_is_text_within (hr.mono (by decide)) hg (a_cons (d_var 0) (a_cons (d_var 2) (a_nil)))) (d_one (d_le (d_len T.n_len (a_cons (d_var 2) (a_nil))) (T.c_MAX_IMAGE.d)))))) (a_nil)))))))
theorem sc_chosen : FnScope ["number", "size", "found", "turn"] ["number", "size"] (defScope s_chosen) := ⟨rfl, rfl, rfl, by decide +kernel, rfl, by decide +kernel, by decide +kernel⟩
def b_chosen : MS := seqM (asgN (lstM (consA (cM (.int 1)) (nilA))) 2) (seqM (forM (itR1 (consA (varM 1) (nilA))) (nameG 3) (exM (appM 2 (binM divD (binM mulI (binM ixD (varM 2) (unM (u1 fun i => .int (-i)) (cM (.int 1)))) (binM subD (varM 0) (varM 3))) (binM addD (varM 3) (cM (.int 1))))))) (retO 2))
def m_chosen : MS := fnM 2 2 b_chosen
theorem ok_chosen {P : Program} {w : World} {K : PySem.W.Frag} {mg : Str → Option Value} {base : Heap} (T : Txt P K mg) : Has P w K mg base "chosen" 1 ["number", "size"] m_chosen := by
  exact hasD T.f_chosen sc_chosen rfl rfl (fun _ _ _ _ _ _ us hl => match us, hl with | [_, _], _ => rfl) (fun f cdv A outer s H hr hg => s_cons (s_setN 2 sc_chosen.nd (d_lst (a_cons (d_int) (a_nil)))) (s_cons (s_for rfl (i_rng1 T.n_range (a_cons (d_var 1) (a_nil))) (g_name 3 sc_chosen.nd) (s_one (s_expr (d_app 2 (d_div (d_mul (d_ix (d_var 2) (d_neg (d_int))) (d_sub (d_var 0) (d_var 3))) (d_add (d_var 3) (d_int)))))) PassesOwn.never) (s_one (s_retO 2))))
theorem sc_tails_of : FnScope ["pattern", "letter", "found", "sign"] ["pattern", "letter"] (defScope s_tails_of) := ⟨rfl, rfl, rfl, by decide +kernel, rfl, by decide +kernel, by decide +kernel⟩
def b_tails_of : MS := seqM (asgN (lstM (consA (cM (.int 0)) (nilA))) 2) (seqM (forM (itX (varM 0)) (nameG 3) (exM (appM 2 (ifM (bM (binM eqD (varM 3) (varM 1))) (binM addD (binM ixD (varM 2) (unM (u1 fun i => .int (-i)) (cM (.int 1)))) (cM (.int 1))) (cM (.int 0)))))) (retO 2))
def m_tails_of : MS := fnM 2 2 b_tails_of
theorem ok_tails_of {P : Program} {w : World} {K : PySem.W.Frag} {mg : Str → Option Value} {base : Heap} (T : Txt P K mg) : Has P w K mg base "tails_of" 1 ["pattern", "letter"] m_tails_of := by
  exact hasD T.f_tails_of sc_tails_of rfl rfl (fun _ _ _ _ _ _ us hl => match us, hl with | [_, _], _ => rfl) (fun f cdv A outer s H hr hg => s_cons (s_setN 2 sc_tails_of.nd (d_lst (a_cons (d_int) (a_nil)))) (s_cons (s_for rfl (i_any (d_var 0)) (g_name 3 sc_tails_of.nd) (s_one (s_expr (d_app 2 (d_if (t_eq hr (d_var 3) (d_var 1)) (d_add (d_ix (d_var 2) (d_neg (d_int))) (d_int)) (d_int))))) PassesOwn.never) (s_one (s_retO 2))))
theorem sc_counts_of : FnScope ["runs", "pattern", "found", "letter", "number", "tails", "parts", "at", "size"] ["runs", "pattern"] (defScope s_counts_of) := ⟨rfl, rfl, rfl, by decide +kernel, rfl, by decide +kernel, by decide +kernel⟩
def b_counts_of : MS := seqM (asgN (binN addL (frzM (lstM (consA (cM (.int 1)) (nilA)))) (frzM (binN repL (frzM (lstM (consA (cM (.int 0)) (nilA)))) (cbM lenD (consA (varM 1) (nilA)))))) 2) (seqM (forM (itL (varM 0)) (tupG 2 (consG (nameG 3) (consG (nameG 4) (nilG)))) (seqM (asgM (callM m_tails_of (consA (varM 1) (consA (varM 3) (nilA)))) (nameG 5)) (seqM (asgM (callM m_chosen (consA (varM 4) (consA (cbM maxL (consA (varM 5) (nilA))) (nilA)))) (nameG 6)) (forM (itRd (consA (cbM lenD (consA (varM 1) (nilA))) (consA (cM (.int 0)) (consA (unM (u1 fun i => .int (-i)) (cM (.int 1))) (nilA))))) (nameG 7) (setM 2 (cbM sumD (consA (frzM (cpM (itR1 (consA (binM addD (binM ixD (varM 5) (varM 7)) (cM (.int 1))) (nilA))) (nameG 8) (yesM) (binM mulI (binM ixD (varM 6) (varM 8)) (binM ixD (varM 2) (binM subD (varM 7) (varM 8)))) [8])) (nilA))) (varM 7)))))) (retO 2))
def m_counts_of : MS := fnM 2 7 b_counts_of
theorem ok_counts_of {P : Program} {w : World} {K : PySem.W.Frag} {mg : Str → Option Value} {base : Heap} (T : Txt P K mg) : Has P w K mg base "counts_of" 2 ["runs", "pattern"] m_counts_of := by
  have h_chosen := ok_chosen (P := P) (w := w) (base := base) T
  have h_tails_of := ok_tails_of (P := P) (w := w) (base := base) T
  exact hasD T.f_counts_of sc_counts_of rfl rfl (fun _ _ _ _ _ _ us hl => match us, hl with | [_, _], _ => rfl) (fun f cdv A outer s H hr hg => s_cons (s_setN 2 sc_counts_of.nd (d_addN (d_frz (d_lst (a_cons (d_int) (a_nil)))) (d_frz (d_repN (d_frz (d_lst (a_cons (d_int) (a_nil)))) (d_len T.n_len (a_cons (d_var 1) (a_nil))))))) (s_cons (s_for rfl (i_lst (d_var 0)) (g_tup rfl (gs_cons (g_name 3 sc_counts_of.nd) (gs_cons (g_name 4 sc_counts_of.nd) (gs_nil)))) (s_cons (s_set 5 sc_counts_of.nd (d_callH h_tails_of (hr.mono (by decide)) hg (a_cons (d_var 1) (a_cons (d_var 3) (a_nil))))) (s_cons (s_set 6 sc_counts_of.nd (d_callH h_chosen (hr.mono (by decide)) hg (a_cons (d_var 4) (a_cons (d_maxL rfl T.n_max (a_cons (d_var 5) (a_nil))) (a_nil))))) (s_one (s_for rfl (i_rngd T.n_range (a_cons (d_len T.n_len (a_cons (d_var 1) (a_nil))) (a_cons (d_int) (a_cons (d_neg (d_int)) (a_nil))))) (g_name 7 sc_counts_of.nd) (s_one (s_setIx 2 (d_sum rfl T.n_sum (a_cons (d_frz (d_lc [("size", 8)] rfl sc_counts_of.nd (i_rng1 T.n_range (a_cons (d_add (d_ix (d_var 5) (d_var 7)) (d_int)) (a_nil))) (by kernel_rfl) (fun _ _ _ _ _ => g_name 8 sc_counts_of.nd) (fun _ _ _ _ _ => c_no) (fun _ _ _ _ _ => d_mul (d_ix (d_var 6) (d_var 8)) (d_ix (d_var 2) (d_sub (d_var 7) (d_var 8)))))) (a_nil))) (d_var 7))) PassesOwn.never)))) PassesOwn.never) (s_one (s_retO 2))))
theorem sc_led_parts : FnScope ["pattern", "words", "found", "begin", "at", "source", "number", "letter", "text", "counts", "size", "key", "one"] ["pattern", "words"] (defScope s_led_parts) := ⟨rfl, rfl, rfl, by decide +kernel, rfl, by decide +kernel, by decide +kernel⟩
def b_led_parts : MS := seqM (asgN (dispT (tupM (consA (cM (.int 0)) (consA (cM (.str "")) (nilA)))) (cM (.int 1))) 2) (seqM (forM (itR1 (consA (cbM lenD (consA (varM 0) (nilA))) (nilA))) (nameG 3) (forM (itL (frzM (liM (varM 2)))) (tupG 2 (consG (tupG 2 (consG (nameG 4) (consG (nameG 5) (nilG)))) (consG (nameG 6) (nilG)))) (ifS (bM (binM eqD (varM 4) (varM 3))) (forM (orI (itemsM (varM 1)) (itemsT (varM 1))) (tupG 2 (consG (nameG 7) (consG (nameG 8) (nilG)))) (seqM (asgM (callM m_counts_of (consA (frzM (cpM (itS (varM 8)) (nameG 12) (yesM) (tupM (consA (varM 12) (consA (cM (.int 1)) (nilA)))) [12])) (consA (slM cutD (varM 0) (some (varM 3)) none) (nilA)))) (nameG 9)) (forM (itR2 (consA (cM (.int 1)) (consA (binM addD (binM subD (cbM lenD (consA (varM 0) (nilA))) (varM 3)) (cM (.int 1))) (nilA)))) (nameG 10) (seqM (asgM (tupM (consA (binM addD (varM 3) (varM 10)) (consA (binM addX (varM 5) (varM 7)) (nilA)))) (nameG 11)) (noM))))) (nxM)))) (retN (dcM (itemsT (varM 2)) (tupG 2 (consG (tupG 2 (consG (nameG 4) (consG (nameG 5) (nilG)))) (consG (nameG 6) (nilG)))) (andT (bM (binM eqD (varM 4) (cbM lenD (consA (varM 0) (nilA))))) (bM (binM neD (varM 6) (cM (.int 0))))) (varM 5) (varM 6) [6, 4, 5])))
def m_led_parts : MS := fnM 2 11 b_led_parts
theorem ok_led_parts {P : Program} {w : World} {K : PySem.W.Frag} {mg : Str → Option Value} {base : Heap} (T : Txt P K mg) : Has P w K mg base "led_parts" 3 ["pattern", "words"] m_led_parts := by
  have h_counts_of := ok_counts_of (P := P) (w := w) (base := base) T
  exact hasD T.f_led_parts sc_led_parts rfl rfl (fun _ _ _ _ _ _ us hl => match us, hl with | [_, _], _ => rfl) (fun f cdv A outer s H hr hg => s_cons (s_setN 2 sc_led_parts.nd (d_dispT hr (d_tup (a_cons (d_int) (a_cons (d_str) (a_nil)))) (d_int))) (s_cons (s_for rfl (i_rng1 T.n_range (a_cons (d_len T.n_len (a_cons (d_var 0) (a_nil))) (a_nil))) (g_name 3 sc_led_parts.nd) (s_one (s_for rfl (i_lst (d_frz (d_listI rfl T.n_list (d_var 2)))) (g_tup rfl (gs_cons (g_tup rfl (gs_cons (g_name 4 sc_led_parts.nd) (gs_cons (g_name 5 sc_led_parts.nd) (gs_nil)))) (gs_cons (g_name 6 sc_led_parts.nd) (gs_nil)))) (s_one (s_if (t_eq hr (d_var 4) (d_var 3)) (s_one (s_for rfl (i_orI (i_items (d_var 1)) (i_itemsT (d_var 1))) (g_tup rfl (gs_cons (g_name 7 sc_led_parts.nd) (gs_cons (g_name 8 sc_led_parts.nd) (gs_nil)))) (s_cons (s_set 9 sc_led_parts.nd (d_callH h_counts_of (hr.mono (by decide)) hg (a_cons (d_frz (d_lc [("one", 12)] rfl sc_led_parts.nd (i_str (d_var 8)) (by kernel_rfl) (fun _ _ _ _ _ => g_name 12 sc_led_parts.nd) (fun _ _ _ _ _ => c_no) (fun _ _ _ _ _ => d_tup (a_cons (d_var 12) (a_cons (d_int) (a_nil)))))) (a_cons (d_sl (d_var 0) (o_at (d_var 3)) o_no) (a_nil))))) (s_one (s_for rfl (i_rng2 T.n_range (a_cons (d_int) (a_cons (d_add (d_sub (d_len T.n_len (a_cons (d_var 0) (a_nil))) (d_var 3)) (d_int)) (a_nil)))) (g_name 10 sc_led_parts.nd) (s_cons (s_set 11 sc_led_parts.nd (d_tup (a_cons (d_add (d_var 3) (d_var 10)) (a_cons (d_addX (d_var 5) (d_var 7)) (a_nil))))) (s_neverB)) PassesOwn.never))) PassesOwn.never)) (s_nil))) PassesOwn.never)) PassesOwn.never) (s_one (s_retN (d_dc [("number", 6), ("at", 4), ("source", 5)] rfl sc_led_parts.nd (i_itemsT (d_var 2)) (by kernel_rfl) (fun _ _ _ _ _ => g_tup rfl (gs_cons (g_tup rfl (gs_cons (g_name 4 sc_led_parts.nd) (gs_cons (g_name 5 sc_led_parts.nd) (gs_nil)))) (gs_cons (g_name 6 sc_led_parts.nd) (gs_nil)))) (fun _ _ _ _ _ => c_one (t_w (w_and (t_eq hr (d_var 4) (d_len T.n_len (a_cons (d_var 0) (a_nil)))) (w_and1 (t_ne hr (d_var 6) (d_int)))))) (fun _ _ _ _ _ => d_var 5) (fun _ _ _ _ _ => d_var 6))))))
theorem sc_led : FnScope ["total", "words", "found", "pattern", "number", "source", "many"] ["total", "words"] (defScope s_led) := ⟨rfl, rfl, rfl, by decide +kernel, rfl, by decide +kernel, by decide +kernel⟩
def b_led : MS := seqM (exM (callM m_require_sum (consA (varM 0) (nilA)))) (seqM (ifS (notT (bM (callM m_are_images (consA (fldM "Sum" "own_letters" (varM 0)) (consA (varM 1) (nilA)))))) (noM) (nxM)) (seqM (asgN (newD) 2) (seqM (forM (orI (itemsM (fldM "Sum" "own_weights" (varM 0))) (itemsT (fldM "Sum" "own_weights" (varM 0)))) (tupG 2 (consG (nameG 3) (consG (nameG 4) (nilG)))) (forM (orI (itemsM (callM m_led_parts (consA (varM 3) (consA (varM 1) (nilA))))) (itemsT (callM m_led_parts (consA (varM 3) (consA (varM 1) (nilA)))))) (tupG 2 (consG (nameG 5) (consG (nameG 6) (nilG)))) (setDM 2 (binM addX (getM2 (varM 2) (varM 5) (cM (.int 0))) (binM mulI (varM 4) (varM 6))) (varM 5)))) (retM (callM m_sum_with (consA (joinM (cM (.str "")) (frzM (cbN sortedD (consA (frzM (cbN lstX (consA (varM 1) (nilA)))) (nilA))))) (consA (varM 2) (consA (fldM "Sum" "own_prime" (varM 0)) (nilA)))))))))
def m_led : MS := fnM 2 5 b_led
theorem ok_led {P : Program} {w : World} {K : PySem.W.Frag} {mg : Str → Option Value} {base : Heap} (T : Txt P K mg) : Has P w K mg base "led" 8 ["total", "words"] m_led := by
  have h_are_images := ok_are_images (P := P) (w := w) (base := base) T
  have h_led_parts := ok_led_parts (P := P) (w := w) (base := base) T
  have h_require_sum := ok_require_sum (P := P) (w := w) (base := base) T
  have h_sum_with := ok_sum_with (P := P) (w := w) (base := base) T
  exact hasD T.f_led sc_led rfl rfl (fun _ _ _ _ _ _ us hl => match us, hl with | [_, _], _ => rfl) (fun f cdv A outer s H hr hg => s_cons (s_expr (d_callH h_require_sum (hr.mono (by decide)) hg (a_cons (d_var 0) (a_nil)))) (s_cons (s_if (t_not (t_val (d_callH h_are_images (hr.mono (by decide)) hg (a_cons (d_fld T.k_Sum T.x_Sum_own_letters (d_var 0)) (a_cons (d_var 1) (a_nil)))))) (s_one (s_never)) (s_nil)) (s_cons (s_setN 2 sc_led.nd (d_dnew)) (s_cons (s_for rfl (i_orI (i_items (d_fld T.k_Sum T.x_Sum_own_weights (d_var 0))) (i_itemsT (d_fld T.k_Sum T.x_Sum_own_weights (d_var 0)))) (g_tup rfl (gs_cons (g_name 3 sc_led.nd) (gs_cons (g_name 4 sc_led.nd) (gs_nil)))) (s_one (s_for rfl (i_orI (i_items (d_callH h_led_parts (hr.mono (by decide)) hg (a_cons (d_var 3) (a_cons (d_var 1) (a_nil))))) (i_itemsT (d_callH h_led_parts (hr.mono (by decide)) hg (a_cons (d_var 3) (a_cons (d_var 1) (a_nil)))))) (g_tup rfl (gs_cons (g_name 5 sc_led.nd) (gs_cons (g_name 6 sc_led.nd) (gs_nil)))) (s_one (s_dput 2 hr (d_addX (d_get2 hr (d_var 2) (d_var 5) (d_int) ⟨rfl, rfl, rfl, rfl⟩) (d_mul (d_var 4) (d_var 6))) (d_var 5))) PassesOwn.never)) PassesOwn.never) (s_one (s_ret (d_callH h_sum_with (hr.mono (by decide)) hg (a_cons (d_join (d_str) (d_frz (d_sorted hr T.n_sorted (a_cons (d_frz (d_listX rfl T.n_list (a_cons (d_var 1) (a_nil)))) (a_nil))))) (a_cons (d_var 2) (a_cons (d_fld T.k_Sum T.x_Sum_own_prime (d_var 0)) (a_nil)))))))))))
def bx_led : MX := orZ (callZ x_require_sum (consA (varM 0) (nilA))) (thX (exM (callM m_require_sum (consA (varM 0) (nilA)))) (ifX (notT (bM (callM m_are_images (consA (fldM "Sum" "own_letters" (varM 0)) (consA (varM 1) (nilA)))))) (raX "InvalidOperation") (noX)))
def x_led : MX := fnZ 2 5 bx_led
theorem zk_led {P : Program} {w : World} {K : PySem.W.Frag} {mg : Str → Option Value} {base : Heap} (T : Txt P K mg) : HasZ P w K mg base "led" 8 ["total", "words"] x_led := by
  have h_are_images := ok_are_images (P := P) (w := w) (base := base) T
  have h_led_parts := ok_led_parts (P := P) (w := w) (base := base) T
  have h_require_sum := ok_require_sum (P := P) (w := w) (base := base) T
  have h_sum_with := ok_sum_with (P := P) (w := w) (base := base) T
  have z_require_sum := zk_require_sum (P := P) (w := w) (base := base) T
  exact hasZ T.f_led sc_led rfl rfl (fun _ _ _ _ _ _ us hl => match us, hl with | [_, _], _ => rfl) (fun f cdv A outer s H E hr hg tk po => zb_both (zs_expr (z_call z_require_sum (pass_of tk) (hr.mono (by decide)) hg (a_cons (d_var 0) (a_nil)))) (s_expr (d_callH h_require_sum (hr.mono (by decide)) hg (a_cons (d_var 0) (a_nil)))) (zb_here (zs_if (t_not (t_val (d_callH h_are_images (hr.mono (by decide)) hg (a_cons (d_fld T.k_Sum T.x_Sum_own_letters (d_var 0)) (a_cons (d_var 1) (a_nil)))))) (zb_here (z_raise T.er_InvalidOperation rfl tk)) (zb_no))))
theorem sc_require_pattern : FnScope ["letters", "value"] ["letters", "value"] (defScope s_require_pattern) := ⟨rfl, rfl, rfl, by decide +kernel, rfl, by decide +kernel, by decide +kernel⟩
def b_require_pattern : MS := ifS (notT (bM (callM m_is_pattern_within (consA (varM 0) (consA (varM 1) (nilA)))))) (noM) (nxM)
def m_require_pattern : MS := fnM 2 0 b_require_pattern
theorem ok_require_pattern {P : Program} {w : World} {K : PySem.W.Frag} {mg : Str → Option Value} {base : Heap} (T : Txt P K mg) : Has P w K mg base "require_pattern" 2 ["letters", "value"] m_require_pattern := by
  have h_is_pattern_within := ok_is_pattern_within (P := P) (w := w) (base := base) T
  exact hasD T.f_require_pattern sc_require_pattern rfl rfl (fun _ _ _ _ _ _ us hl => match us, hl with | [_, _], _ => rfl) (fun f cdv A outer s H hr hg => s_one (s_if (t_not (t_val (d_callH h_is_pattern_within (hr.mono (by decide)) hg (a_cons (d_var 0) (a_cons (d_var 1) (a_nil)))))) (s_one (s_never)) (s_nil)))
def bx_require_pattern : MX := ifX (notT (bM (callM m_is_pattern_within (consA (varM 0) (consA (varM 1) (nilA)))))) (raX "InvalidPattern") (noX)
def x_require_pattern : MX := fnZ 2 0 bx_require_pattern
theorem zk_require_pattern {P : Program} {w : World} {K : PySem.W.Frag} {mg : Str → Option Value} {base : Heap} (T : Txt P K mg) : HasZ P w K mg base "require_pattern" 2 ["letters", "value"] x_require_pattern := by
  have h_is_pattern_within := ok_is_pattern_within (P := P) (w := w) (base := base) T
  exact hasZ T.f_require_pattern sc_require_pattern rfl rfl (fun _ _ _ _ _ _ us hl => match us, hl with | [_, _], _ => rfl) (fun f cdv A outer s H E hr hg tk po => zb_here (zs_if (t_not (t_val (d_callH h_is_pattern_within (hr.mono (by decide)) hg (a_cons (d_var 0) (a_cons (d_var 1) (a_nil)))))) (zb_here (z_raise T.er_InvalidPattern rfl tk)) (zb_no)))
theorem sc_overlays : FnScope ["letters", "one", "other", "found", "pattern"] ["letters", "one", "other"] (defScope s_overlays) := ⟨rfl, rfl, rfl, by decide +kernel, rfl, by decide +kernel, by decide +kernel⟩
def b_overlays : MS := seqM (exM (callM m_require_letters (consA (varM 0) (nilA)))) (seqM (exM (callM m_require_pattern (consA (varM 0) (consA (varM 1) (nilA))))) (seqM (exM (callM m_require_pattern (consA (varM 0) (consA (varM 2) (nilA))))) (seqM (ifS (bM (binM gtD (binM addD (cbM lenD (consA (varM 1) (nilA))) (cbM lenD (consA (varM 2) (nilA)))) (cM c_MAX_OVERLAY))) (noM) (nxM)) (seqM (asgM (callM m_overlays_of (consA (varM 1) (consA (varM 2) (nilA)))) (nameG 3)) (retM (cbM tupleD (consA (frzM (cpM (itL (callM m_ordered (consA (frzM (cbN lstKD (consA (varM 3) (nilA)))) (nilA)))) (nameG 4) (yesM) (tupM (consA (varM 4) (consA (binM dgD (varM 3) (varM 4)) (nilA)))) [4])) (nilA))))))))
def m_overlays : MS := fnM 3 2 b_overlays
theorem ok_overlays {P : Program} {w : World} {K : PySem.W.Frag} {mg : Str → Option Value} {base : Heap} (T : Txt P K mg) : Has P w K mg base "overlays" 5 ["letters", "one", "other"] m_overlays := by
  have h_ordered := ok_ordered (P := P) (w := w) (base := base) T
  have h_overlays_of := ok_overlays_of (P := P) (w := w) (base := base) T
  have h_require_letters := ok_require_letters (P := P) (w := w) (base := base) T
  have h_require_pattern := ok_require_pattern (P := P) (w := w) (base := base) T
  exact hasD T.f_overlays sc_overlays rfl rfl (fun _ _ _ _ _ _ us hl => match us, hl with | [_, _, _], _ => rfl) (fun f cdv A outer s H hr hg => s_cons (s_expr (d_callH h_require_letters (hr.mono (by decide)) hg (a_cons (d_var 0) (a_nil)))) (s_cons (s_expr (d_callH h_require_pattern (hr.mono (by decide)) hg (a_cons (d_var 0) (a_cons (d_var 1) (a_nil))))) (s_cons (s_expr (d_callH h_require_pattern (hr.mono (by decide)) hg (a_cons (d_var 0) (a_cons (d_var 2) (a_nil))))) (s_cons (s_if (t_gt (d_add (d_len T.n_len (a_cons (d_var 1) (a_nil))) (d_len T.n_len (a_cons (d_var 2) (a_nil)))) (T.c_MAX_OVERLAY.d)) (s_one (s_never)) (s_nil)) (s_cons (s_set 3 sc_overlays.nd (d_callH h_overlays_of (hr.mono (by decide)) hg (a_cons (d_var 1) (a_cons (d_var 2) (a_nil))))) (s_one (s_ret (d_tuplec T.n_tuple (a_cons (d_frz (d_lc [("pattern", 4)] rfl sc_overlays.nd (i_lst (d_callH h_ordered (hr.mono (by decide)) hg (a_cons (d_frz (d_listK rfl T.n_list (a_cons (d_var 3) (a_nil)))) (a_nil)))) (by kernel_rfl) (fun _ _ _ _ _ => g_name 4 sc_overlays.nd) (fun _ _ _ _ _ => c_no) (fun _ _ _ _ _ => d_tup (a_cons (d_var 4) (a_cons (d_dget hr (d_var 3) (d_var 4)) (a_nil)))))) (a_nil))))))))))
def bx_overlays : MX := orZ (callZ x_require_letters (consA (varM 0) (nilA))) (thX (exM (callM m_require_letters (consA (varM 0) (nilA)))) (orZ (callZ x_require_pattern (consA (varM 0) (consA (varM 1) (nilA)))) (thX (exM (callM m_require_pattern (consA (varM 0) (consA (varM 1) (nilA))))) (orZ (callZ x_require_pattern (consA (varM 0) (consA (varM 2) (nilA)))) (thX (exM (callM m_require_pattern (consA (varM 0) (consA (varM 2) (nilA))))) (ifX (bM (binM gtD (binM addD (cbM lenD (consA (varM 1) (nilA))) (cbM lenD (consA (varM 2) (nilA)))) (cM c_MAX_OVERLAY))) (raI "TooMany" "limit" okInt (cM c_MAX_OVERLAY)) (noX)))))))
def x_overlays : MX := fnZ 3 2 bx_overlays
theorem zk_overlays {P : Program} {w : World} {K : PySem.W.Frag} {mg : Str → Option Value} {base : Heap} (T : Txt P K mg) : HasZ P w K mg base "overlays" 5 ["letters", "one", "other"] x_overlays := by
  have h_ordered := ok_ordered (P := P) (w := w) (base := base) T
  have h_overlays_of := ok_overlays_of (P := P) (w := w) (base := base) T
  have h_require_letters := ok_require_letters (P := P) (w := w) (base := base) T
  have h_require_pattern := ok_require_pattern (P := P) (w := w) (base := base) T
  have z_require_letters := zk_require_letters (P := P) (w := w) (base := base) T
  have z_require_pattern := zk_require_pattern (P := P) (w := w) (base := base) T
  exact hasZ T.f_overlays sc_overlays rfl rfl (fun _ _ _ _ _ _ us hl => match us, hl with | [_, _, _], _ => rfl) (fun f cdv A outer s H E hr hg tk po => zb_both (zs_expr (z_call z_require_letters (pass_of tk) (hr.mono (by decide)) hg (a_cons (d_var 0) (a_nil)))) (s_expr (d_callH h_require_letters (hr.mono (by decide)) hg (a_cons (d_var 0) (a_nil)))) (zb_both (zs_expr (z_call z_require_pattern (pass_of tk) (hr.mono (by decide)) hg (a_cons (d_var 0) (a_cons (d_var 1) (a_nil))))) (s_expr (d_callH h_require_pattern (hr.mono (by decide)) hg (a_cons (d_var 0) (a_cons (d_var 1) (a_nil))))) (zb_both (zs_expr (z_call z_require_pattern (pass_of tk) (hr.mono (by decide)) hg (a_cons (d_var 0) (a_cons (d_var 2) (a_nil))))) (s_expr (d_callH h_require_pattern (hr.mono (by decide)) hg (a_cons (d_var 0) (a_cons (d_var 2) (a_nil))))) (zb_here (zs_if (t_gt (d_add (d_len T.n_len (a_cons (d_var 1) (a_nil))) (d_len T.n_len (a_cons (d_var 2) (a_nil)))) (T.c_MAX_OVERLAY.d)) (zb_here (z_raiseI (k := 0) T.ei_TooMany (hr.mono (by decide)) rfl tk (T.c_MAX_OVERLAY.d))) (zb_no))))))
theorem sc_renamed : FnScope ["total", "letters", "names", "weights", "pattern", "number", "one"] ["total", "letters"] (defScope s_renamed) := ⟨rfl, rfl, rfl, by decide +kernel, rfl, by decide +kernel, by decide +kernel⟩
def b_renamed : MS := seqM (exM (callM m_require_sum (consA (varM 0) (nilA)))) (seqM (exM (callM m_require_letters (consA (varM 1) (nilA)))) (seqM (ifS (bM (binM neI (cbM lenD (consA (varM 1) (nilA))) (cbM lenD (consA (fldM "Sum" "own_letters" (varM 0)) (nilA))))) (noM) (nxM)) (noM)))
def m_renamed : MS := fnM 2 5 b_renamed
theorem ok_renamed {P : Program} {w : World} {K : PySem.W.Frag} {mg : Str → Option Value} {base : Heap} (T : Txt P K mg) : Has P w K mg base "renamed" 8 ["total", "letters"] m_renamed := by
  have h_require_letters := ok_require_letters (P := P) (w := w) (base := base) T
  have h_require_sum := ok_require_sum (P := P) (w := w) (base := base) T
  exact hasD T.f_renamed sc_renamed rfl rfl (fun _ _ _ _ _ _ us hl => match us, hl with | [_, _], _ => rfl) (fun f cdv A outer s H hr hg => s_cons (s_expr (d_callH h_require_sum (hr.mono (by decide)) hg (a_cons (d_var 0) (a_nil)))) (s_cons (s_expr (d_callH h_require_letters (hr.mono (by decide)) hg (a_cons (d_var 1) (a_nil)))) (s_cons (s_if (t_neI (d_len T.n_len (a_cons (d_var 1) (a_nil))) (d_len T.n_len (a_cons (d_fld T.k_Sum T.x_Sum_own_letters (d_var 0)) (a_nil)))) (s_one (s_never)) (s_nil)) (s_neverB))))
def bx_renamed : MX := orZ (callZ x_require_sum (consA (varM 0) (nilA))) (thX (exM (callM m_require_sum (consA (varM 0) (nilA)))) (orZ (callZ x_require_letters (consA (varM 1) (nilA))) (thX (exM (callM m_require_letters (consA (varM 1) (nilA)))) (ifX (bM (binM neI (cbM lenD (consA (varM 1) (nilA))) (cbM lenD (consA (fldM "Sum" "own_letters" (varM 0)) (nilA))))) (raX "InvalidOperation") (noX)))))
def x_renamed : MX := fnZ 2 5 bx_renamed
theorem zk_renamed {P : Program} {w : World} {K : PySem.W.Frag} {mg : Str → Option Value} {base : Heap} (T : Txt P K mg) : HasZ P w K mg base "renamed" 8 ["total", "letters"] x_renamed := by
  have h_require_letters := ok_require_letters (P := P) (w := w) (base := base) T
  have h_require_sum := ok_require_sum (P := P) (w := w) (base := base) T
  have z_require_letters := zk_require_letters (P := P) (w := w) (base := base) T
  have z_require_sum := zk_require_sum (P := P) (w := w) (base := base) T
  exact hasZ T.f_renamed sc_renamed rfl rfl (fun _ _ _ _ _ _ us hl => match us, hl with | [_, _], _ => rfl) (fun f cdv A outer s H E hr hg tk po => zb_both (zs_expr (z_call z_require_sum (pass_of tk) (hr.mono (by decide)) hg (a_cons (d_var 0) (a_nil)))) (s_expr (d_callH h_require_sum (hr.mono (by decide)) hg (a_cons (d_var 0) (a_nil)))) (zb_both (zs_expr (z_call z_require_letters (pass_of tk) (hr.mono (by decide)) hg (a_cons (d_var 1) (a_nil)))) (s_expr (d_callH h_require_letters (hr.mono (by decide)) hg (a_cons (d_var 1) (a_nil)))) (zb_here (zs_if (t_neI (d_len T.n_len (a_cons (d_var 1) (a_nil))) (d_len T.n_len (a_cons (d_fld T.k_Sum T.x_Sum_own_letters (d_var 0)) (a_nil)))) (zb_here (z_raise T.er_InvalidOperation rfl tk)) (zb_no)))))
theorem sc_turned_round : FnScope ["total", "weights", "pattern", "number"] ["total"] (defScope s_turned_round) := ⟨rfl, rfl, rfl, by decide +kernel, rfl, by decide +kernel, by decide +kernel⟩
def b_turned_round : MS := seqM (exM (callM m_require_sum (consA (varM 0) (nilA)))) (noM)
def m_turned_round : MS := fnM 1 3 b_turned_round
theorem ok_turned_round {P : Program} {w : World} {K : PySem.W.Frag} {mg : Str → Option Value} {base : Heap} (T : Txt P K mg) : Has P w K mg base "turned_round" 8 ["total"] m_turned_round := by
  have h_require_sum := ok_require_sum (P := P) (w := w) (base := base) T
  exact hasD T.f_turned_round sc_turned_round rfl rfl (fun _ _ _ _ _ _ us hl => match us, hl with | [_], _ => rfl) (fun f cdv A outer s H hr hg => s_cons (s_expr (d_callH h_require_sum (hr.mono (by decide)) hg (a_cons (d_var 0) (a_nil)))) (s_neverB))
def bx_turned_round : MX := callZ x_require_sum (consA (varM 0) (nilA))
def x_turned_round : MX := fnZ 1 3 bx_turned_round
theorem zk_turned_round {P : Program} {w : World} {K : PySem.W.Frag} {mg : Str → Option Value} {base : Heap} (T : Txt P K mg) : HasZ P w K mg base "turned_round" 8 ["total"] x_turned_round := by
  have h_require_sum := ok_require_sum (P := P) (w := w) (base := base) T
  have z_require_sum := zk_require_sum (P := P) (w := w) (base := base) T
  exact hasZ T.f_turned_round sc_turned_round rfl rfl (fun _ _ _ _ _ _ us hl => match us, hl with | [_], _ => rfl) (fun f cdv A outer s H E hr hg tk po => zb_here (zs_expr (z_call z_require_sum (pass_of tk) (hr.mono (by decide)) hg (a_cons (d_var 0) (a_nil)))))
theorem sc__law_right : FnScope ["_law_cup_here", "_law_made", "_law_rests", "_law_told", "_law_due", "_law_bad", "_law_long", "_law_much", "_law_none", "_law_odd", "_law_some"] ["_law_cup_here", "_law_made", "_law_rests"] (defScope s__law_right) := ⟨rfl, rfl, rfl, by decide +kernel, rfl, by decide +kernel, by decide +kernel⟩
def b__law_right : MS := seqM (asgM (callC 0 m__law_pick (consA (frzM (lstM (consA (cM .non) (consA (cM (.int 0)) (consA (cM (.str "")) (consA (cM (.str "ba")) (consA (cM (.str "aa")) (consA (cM (.str "abcd")) (consA (cM (.str "A")) (consA (tupM (consA (cM (.str "a")) (nilA))) (consA (cM (.bl true)) (nilA)))))))))))) (nilA))) (nameG 8)) (seqM (asgM (callC 0 m__law_pick (consA (frzM (lstM (consA (cM .non) (consA (cM (.int 0)) (consA (cM (.str "c")) (consA (cM (.str "aB")) (consA (tupM (consA (cM (.str "a")) (nilA))) (consA (frzM (lstM (consA (cM (.str "ab")) (nilA)))) (consA (cM (.str "a b")) (consA (cM (.bl true)) (consA (binM mulS (cM (.str "a")) (cM (.int 401))) (nilA)))))))))))) (nilA))) (nameG 5)) (seqM (asgM (callC 0 m__law_pick (consA (frzM (lstM (consA (cM .non) (consA (cM (.int 0)) (consA (cM (.str "sum")) (consA (own1M "Sum" m_Sum_weights (varM 1)) (consA (frzM (lstM (consA (varM 1) (nilA)))) (consA (cM (.bl true)) (consA (frzM (newD)) (nilA)))))))))) (nilA))) (nameG 9)) (seqM (asgM (callC 0 m__law_pick (consA (frzM (lstM (consA (cM .non) (consA (unM (u1 fun i => .int (-i)) (cM (.int 1))) (consA (cM (.int 5)) (consA (cM (.bl true)) (consA (cM (.str "1")) (consA (tupM (consA (cM (.int 1)) (nilA))) (consA (binM powD (cM (.int 10)) (cM (.int 60))) (nilA)))))))))) (nilA))) (nameG 7)) (seqM (asgN (lstM (consA (cM .non) (consA (cM (.int 0)) (consA (frzM (newD)) (consA (cM (.str "ab")) (consA (frzM (lstM (consA (tupM (consA (cM (.str "a")) (consA (cM (.str "b")) (nilA)))) (nilA)))) (consA (frzM (dispM [(cM (.str "A"), cM (.str "a"))])) (consA (frzM (dispM [(cM (.str "ab"), cM (.str "a"))])) (consA (frzM (dispM [(cM (.int 0), cM (.str "a"))])) (consA (frzM (dispM [(cM (.str "x"), cM (.str "c"))])) (consA (frzM (dispM [(cM (.str "x"), cM .non)])) (consA (frzM (dispM [(cM (.str "x"), cM (.str "aB"))])) (nilA))))))))))))) 10) (seqM (asgM (callC 0 m__law_pick (consA (binM addX (varM 10) (frzM (lstM (consA (frzM (dispM [(cM (.str "x"), binM mulS (cM (.str "a")) (cM (.int 9)))])) (consA (frzM (dispM [(cM (.str "w"), cM (.str "a")), (cM (.str "x"), cM (.str "a")), (cM (.str "y"), cM (.str "a")), (cM (.str "z"), cM (.str "a"))])) (consA (frzM (dispT (tupM (consA (cM (.str "x")) (nilA))) (cM (.str "a")))) (nilA))))))) (nilA))) (nameG 10)) (seqM (asgM (callC 0 m__law_pick (consA (frzM (lstM (consA (tupM (consA (cM (.str "aaaa")) (consA (cM (.str "babab")) (nilA)))) (consA (tupM (consA (cM (.str "")) (consA (binM mulS (cM (.str "b")) (cM (.int 9))) (nilA)))) (consA (tupM (consA (binM mulS (cM (.str "a")) (cM (.int 400))) (consA (cM (.str "")) (nilA)))) (nilA)))))) (nilA))) (nameG 6)) (seqM (asgN (lstM (consA (tryMe xrs xsub xflds cl__law_met "good" [5, 8] (callM m_overlays (consA (varM 1) (consA (varM 0) (consA (varM 0) (nilA))))) (callZ x_overlays (consA (varM 1) (consA (varM 0) (consA (varM 0) (nilA)))))) (nilA))) 3) (seqM (exM (appM 3 (tryMe xrs xsub xflds cl__law_met "good" [5, 6] (callM m_overlays (consA (cM (.str "ab")) (consA (varM 0) (consA (binM ixD (varM 1) (cM (.int 1))) (nilA))))) (callZ x_overlays (consA (cM (.str "ab")) (consA (varM 0) (consA (binM ixD (varM 1) (cM (.int 1))) (nilA)))))))) (seqM (exM (appM 3 (tryMe xrs xsub xflds cl__law_met "good" [5] (callM m_overlays (consA (cM (.str "ab")) (consA (binM mulS (cM (.str "a")) (cM (.int 9))) (consA (varM 0) (nilA))))) (callZ x_overlays (consA (cM (.str "ab")) (consA (binM mulS (cM (.str "a")) (cM (.int 9))) (consA (varM 0) (nilA)))))))) (seqM (exM (appM 3 (tryMe xrs xsub xflds cl__law_met "good" [6] (callM m_overlays (consA (cM (.str "ab")) (consA (binM ixD (varM 0) (cM (.int 0))) (consA (binM ixD (varM 0) (cM (.int 1))) (nilA))))) (callZ x_overlays (consA (cM (.str "ab")) (consA (binM ixD (varM 0) (cM (.int 0))) (consA (binM ixD (varM 0) (cM (.int 1))) (nilA)))))))) (seqM (exM (appM 3 (tryMe xrs xsub xflds cl__law_met "good" [7, 9] (callM m_binomial_of (consA (varM 1) (consA (varM 0) (nilA)))) (callZ x_binomial_of (consA (varM 1) (consA (varM 0) (nilA))))))) (seqM (exM (appM 3 (tryMe xrs xsub xflds cl__law_met "good" [2, 7] (callM m_binomial_of (consA (varM 0) (consA (varM 1) (nilA)))) (callZ x_binomial_of (consA (varM 0) (consA (varM 1) (nilA))))))) (seqM (exM (appM 3 (tryMe xrs xsub xflds cl__law_met "good" [2] (callM m_binomial_of (consA (varM 0) (consA (cM (.int 2)) (nilA)))) (callZ x_binomial_of (consA (varM 0) (consA (cM (.int 2)) (nilA))))))) (seqM (exM (appM 3 (tryMe xrs xsub xflds cl__law_met "good" [9] (callM m_turned_round (consA (varM 0) (nilA))) (callZ x_turned_round (consA (varM 0) (nilA)))))) (seqM (exM (appM 3 (tryMe xrs xsub xflds cl__law_met "good" [8, 9] (callM m_renamed (consA (varM 1) (consA (varM 0) (nilA)))) (callZ x_renamed (consA (varM 1) (consA (varM 0) (nilA))))))) (seqM (exM (appM 3 (tryMe xrs xsub xflds cl__law_met "good" [1, 8] (callM m_renamed (consA (varM 0) (consA (varM 1) (nilA)))) (callZ x_renamed (consA (varM 0) (consA (varM 1) (nilA))))))) (seqM (exM (appM 3 (tryMeC xrs xsub xflds cl__law_met "good" 0 [1] (callM m_renamed (consA (varM 1) (consA (callC 0 m__law_pick (consA (frzM (lstM (consA (cM (.str "a")) (consA (cM (.str "abc")) (nilA))))) (nilA))) (nilA)))) (callZ x_renamed (consA (varM 1) (consA (callC 0 m__law_pick (consA (frzM (lstM (consA (cM (.str "a")) (consA (cM (.str "abc")) (nilA))))) (nilA))) (nilA))))))) (seqM (exM (appM 3 (tryMe xrs xsub xflds cl__law_met "good" [9, 10] (callM m_led (consA (varM 0) (consA (varM 1) (nilA)))) (callZ x_led (consA (varM 0) (consA (varM 1) (nilA))))))) (seqM (exM (appM 3 (tryMe xrs xsub xflds cl__law_met "good" [1, 10] (callM m_led (consA (varM 0) (consA (varM 1) (nilA)))) (callZ x_led (consA (varM 0) (consA (varM 1) (nilA))))))) (seqM (asgN (lstM (consA (cM (.str "letters")) (consA (cM (.str "pattern")) (consA (cM (.str "pattern")) (consA (cM (.str "many 8")) (consA (cM (.str "sum")) (consA (binM addD (cM (.str "number ")) (cbM reprD (consA (varM 7) (nilA)))) (consA (cM (.str "operation")) (consA (cM (.str "sum")) (consA (cM (.str "sum")) (consA (cM (.str "letters")) (nilA)))))))))))) 4) (retM (binM eqD (varM 3) (binM addD (varM 4) (frzM (lstM (consA (cM (.str "operation")) (consA (cM (.str "sum")) (consA (cM (.str "operation")) (nilA)))))))))))))))))))))))))))))
def m__law_right : MS := fnM 3 8 b__law_right
theorem ok__law_right {P : Program} {w : World} {K : PySem.W.Frag} {mg : Str → Option Value} {base : Heap} (T : Txt P K mg) (U : Tbs K mg base) : Has P w K mg base "_law_right" 11 ["_law_cup_here", "_law_made", "_law_rests"] m__law_right := by
  obtain ⟨cd, At, tab⟩ := U.t__law_right
  have z_binomial_of := zk_binomial_of (P := P) (w := w) (base := base) T
  have z_led := zk_led (P := P) (w := w) (base := base) T
  have z_overlays := zk_overlays (P := P) (w := w) (base := base) T
  have z_renamed := zk_renamed (P := P) (w := w) (base := base) T
  have z_turned_round := zk_turned_round (P := P) (w := w) (base := base) T
  have h_Sum_weights := ok_Sum_weights (P := P) (w := w) (base := base) T
  have h__law_pick := ok__law_pick (P := P) (w := w) (base := base) T
  have h_binomial_of := ok_binomial_of (P := P) (w := w) (base := base) T
  have h_led := ok_led (P := P) (w := w) (base := base) T
  have h_overlays := ok_overlays (P := P) (w := w) (base := base) T
  have h_renamed := ok_renamed (P := P) (w := w) (base := base) T
  have h_turned_round := ok_turned_round (P := P) (w := w) (base := base) T
  exact hasDC At sc__law_right rfl rfl (fun _ _ _ _ _ _ us hl => match us, hl with | [_, _, _], _ => rfl) (fun f A outer s H hr hg => s_cons (s_set 8 sc__law_right.nd (d_callCH 0 h__law_pick (hr.mono (by decide)) hg (a_cons (d_frz (d_lst (a_cons (d_non) (a_cons (d_int) (a_cons (d_str) (a_cons (d_str) (a_cons (d_str) (a_cons (d_str) (a_cons (d_str) (a_cons (d_tup (a_cons (d_str) (a_nil))) (a_cons (d_bl) (a_nil)))))))))))) (a_nil)))) (s_cons (s_set 5 sc__law_right.nd (d_callCH 0 h__law_pick (hr.mono (by decide)) hg (a_cons (d_frz (d_lst (a_cons (d_non) (a_cons (d_int) (a_cons (d_str) (a_cons (d_str) (a_cons (d_tup (a_cons (d_str) (a_nil))) (a_cons (d_frz (d_lst (a_cons (d_str) (a_nil)))) (a_cons (d_str) (a_cons (d_bl) (a_cons (d_mulS (d_str) (d_int)) (a_nil)))))))))))) (a_nil)))) (s_cons (s_set 9 sc__law_right.nd (d_callCH 0 h__law_pick (hr.mono (by decide)) hg (a_cons (d_frz (d_lst (a_cons (d_non) (a_cons (d_int) (a_cons (d_str) (a_cons (d_prop h_Sum_weights (hr.mono (by decide)) hg (d_var 1)) (a_cons (d_frz (d_lst (a_cons (d_var 1) (a_nil)))) (a_cons (d_bl) (a_cons (d_frz (d_dnew)) (a_nil)))))))))) (a_nil)))) (s_cons (s_set 7 sc__law_right.nd (d_callCH 0 h__law_pick (hr.mono (by decide)) hg (a_cons (d_frz (d_lst (a_cons (d_non) (a_cons (d_neg (d_int)) (a_cons (d_int) (a_cons (d_bl) (a_cons (d_str) (a_cons (d_tup (a_cons (d_int) (a_nil))) (a_cons (d_pow (d_int) (d_int)) (a_nil)))))))))) (a_nil)))) (s_cons (s_setN 10 sc__law_right.nd (d_lst (a_cons (d_non) (a_cons (d_int) (a_cons (d_frz (d_dnew)) (a_cons (d_str) (a_cons (d_frz (d_lst (a_cons (d_tup (a_cons (d_str) (a_cons (d_str) (a_nil)))) (a_nil)))) (a_cons (d_frz (d_disp (p_cons (d_str) (d_str) (p_nil)))) (a_cons (d_frz (d_disp (p_cons (d_str) (d_str) (p_nil)))) (a_cons (d_frz (d_disp (p_cons (d_int) (d_str) (p_nil)))) (a_cons (d_frz (d_disp (p_cons (d_str) (d_str) (p_nil)))) (a_cons (d_frz (d_disp (p_cons (d_str) (d_non) (p_nil)))) (a_cons (d_frz (d_disp (p_cons (d_str) (d_str) (p_nil)))) (a_nil)))))))))))))) (s_cons (s_set 10 sc__law_right.nd (d_callCH 0 h__law_pick (hr.mono (by decide)) hg (a_cons (d_addX (d_var 10) (d_frz (d_lst (a_cons (d_frz (d_disp (p_cons (d_str) (d_mulS (d_str) (d_int)) (p_nil)))) (a_cons (d_frz (d_disp (p_cons (d_str) (d_str) (p_cons (d_str) (d_str) (p_cons (d_str) (d_str) (p_cons (d_str) (d_str) (p_nil))))))) (a_cons (d_frz (d_dispT hr (d_tup (a_cons (d_str) (a_nil))) (d_str))) (a_nil))))))) (a_nil)))) (s_cons (s_set 6 sc__law_right.nd (d_callCH 0 h__law_pick (hr.mono (by decide)) hg (a_cons (d_frz (d_lst (a_cons (d_tup (a_cons (d_str) (a_cons (d_str) (a_nil)))) (a_cons (d_tup (a_cons (d_str) (a_cons (d_mulS (d_str) (d_int)) (a_nil)))) (a_cons (d_tup (a_cons (d_mulS (d_str) (d_int)) (a_cons (d_str) (a_nil)))) (a_nil)))))) (a_nil)))) (s_cons (s_setN 3 sc__law_right.nd (d_lst (a_cons (d_met (k := 5) (t__law_met T 5) T.xf (by decide +kernel) tab rfl rfl (by kernel_rfl) (by kernel_rfl) rfl (fun _ _ _ _ _ => rfl) (hr.mono (by decide)) hg (fun A outer s H f c E n hr hg hn => by subst hn; exact d_callH h_overlays (hr.mono (by decide)) hg (a_cons (d_var 1) (a_cons (d_var 0) (a_cons (d_var 0) (a_nil))))) (fun A outer s H f c E n hr hg hn tk => by subst hn; exact z_call z_overlays (pass_of tk) (hr.mono (by decide)) hg (a_cons (d_var 1) (a_cons (d_var 0) (a_cons (d_var 0) (a_nil)))))) (a_nil)))) (s_cons (s_expr (d_app 3 (d_met (k := 5) (t__law_met T 5) T.xf (by decide +kernel) tab rfl rfl (by kernel_rfl) (by kernel_rfl) rfl (fun _ _ _ _ _ => rfl) (hr.mono (by decide)) hg (fun A outer s H f c E n hr hg hn => by subst hn; exact d_callH h_overlays (hr.mono (by decide)) hg (a_cons (d_str) (a_cons (d_var 0) (a_cons (d_ix (d_var 1) (d_int)) (a_nil))))) (fun A outer s H f c E n hr hg hn tk => by subst hn; exact z_call z_overlays (pass_of tk) (hr.mono (by decide)) hg (a_cons (d_str) (a_cons (d_var 0) (a_cons (d_ix (d_var 1) (d_int)) (a_nil)))))))) (s_cons (s_expr (d_app 3 (d_met (k := 5) (t__law_met T 5) T.xf (by decide +kernel) tab rfl rfl (by kernel_rfl) (by kernel_rfl) rfl (fun _ _ _ _ _ => rfl) (hr.mono (by decide)) hg (fun A outer s H f c E n hr hg hn => by subst hn; exact d_callH h_overlays (hr.mono (by decide)) hg (a_cons (d_str) (a_cons (d_mulS (d_str) (d_int)) (a_cons (d_var 0) (a_nil))))) (fun A outer s H f c E n hr hg hn tk => by subst hn; exact z_call z_overlays (pass_of tk) (hr.mono (by decide)) hg (a_cons (d_str) (a_cons (d_mulS (d_str) (d_int)) (a_cons (d_var 0) (a_nil)))))))) (s_cons (s_expr (d_app 3 (d_met (k := 5) (t__law_met T 5) T.xf (by decide +kernel) tab rfl rfl (by kernel_rfl) (by kernel_rfl) rfl (fun _ _ _ _ _ => rfl) (hr.mono (by decide)) hg (fun A outer s H f c E n hr hg hn => by subst hn; exact d_callH h_overlays (hr.mono (by decide)) hg (a_cons (d_str) (a_cons (d_ix (d_var 0) (d_int)) (a_cons (d_ix (d_var 0) (d_int)) (a_nil))))) (fun A outer s H f c E n hr hg hn tk => by subst hn; exact z_call z_overlays (pass_of tk) (hr.mono (by decide)) hg (a_cons (d_str) (a_cons (d_ix (d_var 0) (d_int)) (a_cons (d_ix (d_var 0) (d_int)) (a_nil)))))))) (s_cons (s_expr (d_app 3 (d_met (k := 8) (t__law_met T 8) T.xf (by decide +kernel) tab rfl rfl (by kernel_rfl) (by kernel_rfl) rfl (fun _ _ _ _ _ => rfl) (hr.mono (by decide)) hg (fun A outer s H f c E n hr hg hn => by subst hn; exact d_callH h_binomial_of (hr.mono (by decide)) hg (a_cons (d_var 1) (a_cons (d_var 0) (a_nil)))) (fun A outer s H f c E n hr hg hn tk => by subst hn; exact z_call z_binomial_of (pass_of tk) (hr.mono (by decide)) hg (a_cons (d_var 1) (a_cons (d_var 0) (a_nil))))))) (s_cons (s_expr (d_app 3 (d_met (k := 8) (t__law_met T 8) T.xf (by decide +kernel) tab rfl rfl (by kernel_rfl) (by kernel_rfl) rfl (fun _ _ _ _ _ => rfl) (hr.mono (by decide)) hg (fun A outer s H f c E n hr hg hn => by subst hn; exact d_callH h_binomial_of (hr.mono (by decide)) hg (a_cons (d_var 0) (a_cons (d_var 1) (a_nil)))) (fun A outer s H f c E n hr hg hn tk => by subst hn; exact z_call z_binomial_of (pass_of tk) (hr.mono (by decide)) hg (a_cons (d_var 0) (a_cons (d_var 1) (a_nil))))))) (s_cons (s_expr (d_app 3 (d_met (k := 8) (t__law_met T 8) T.xf (by decide +kernel) tab rfl rfl (by kernel_rfl) (by kernel_rfl) rfl (fun _ _ _ _ _ => rfl) (hr.mono (by decide)) hg (fun A outer s H f c E n hr hg hn => by subst hn; exact d_callH h_binomial_of (hr.mono (by decide)) hg (a_cons (d_var 0) (a_cons (d_int) (a_nil)))) (fun A outer s H f c E n hr hg hn tk => by subst hn; exact z_call z_binomial_of (pass_of tk) (hr.mono (by decide)) hg (a_cons (d_var 0) (a_cons (d_int) (a_nil))))))) (s_cons (s_expr (d_app 3 (d_met (k := 8) (t__law_met T 8) T.xf (by decide +kernel) tab rfl rfl (by kernel_rfl) (by kernel_rfl) rfl (fun _ _ _ _ _ => rfl) (hr.mono (by decide)) hg (fun A outer s H f c E n hr hg hn => by subst hn; exact d_callH h_turned_round (hr.mono (by decide)) hg (a_cons (d_var 0) (a_nil))) (fun A outer s H f c E n hr hg hn tk => by subst hn; exact z_call z_turned_round (pass_of tk) (hr.mono (by decide)) hg (a_cons (d_var 0) (a_nil)))))) (s_cons (s_expr (d_app 3 (d_met (k := 8) (t__law_met T 8) T.xf (by decide +kernel) tab rfl rfl (by kernel_rfl) (by kernel_rfl) rfl (fun _ _ _ _ _ => rfl) (hr.mono (by decide)) hg (fun A outer s H f c E n hr hg hn => by subst hn; exact d_callH h_renamed (hr.mono (by decide)) hg (a_cons (d_var 1) (a_cons (d_var 0) (a_nil)))) (fun A outer s H f c E n hr hg hn tk => by subst hn; exact z_call z_renamed (pass_of tk) (hr.mono (by decide)) hg (a_cons (d_var 1) (a_cons (d_var 0) (a_nil))))))) (s_cons (s_expr (d_app 3 (d_met (k := 8) (t__law_met T 8) T.xf (by decide +kernel) tab rfl rfl (by kernel_rfl) (by kernel_rfl) rfl (fun _ _ _ _ _ => rfl) (hr.mono (by decide)) hg (fun A outer s H f c E n hr hg hn => by subst hn; exact d_callH h_renamed (hr.mono (by decide)) hg (a_cons (d_var 0) (a_cons (d_var 1) (a_nil)))) (fun A outer s H f c E n hr hg hn tk => by subst hn; exact z_call z_renamed (pass_of tk) (hr.mono (by decide)) hg (a_cons (d_var 0) (a_cons (d_var 1) (a_nil))))))) (s_cons (s_expr (d_app 3 (d_metC (k := 8) (t__law_met T 8) T.xf (by decide +kernel) tab rfl rfl (by kernel_rfl) (by kernel_rfl) rfl (fun _ _ _ _ _ => rfl) (hr.mono (by decide)) hg (fun A outer s H f c E n hr hg hn => by subst hn; exact d_callH h_renamed (hr.mono (by decide)) hg (a_cons (d_var 1) (a_cons (d_callCH 0 h__law_pick (hr.mono (by decide)) hg (a_cons (d_frz (d_lst (a_cons (d_str) (a_cons (d_str) (a_nil))))) (a_nil))) (a_nil)))) (fun A outer s H f c E n hr hg hn tk => by subst hn; exact z_call z_renamed (pass_of tk) (hr.mono (by decide)) hg (a_cons (d_var 1) (a_cons (d_callCH 0 h__law_pick (hr.mono (by decide)) hg (a_cons (d_frz (d_lst (a_cons (d_str) (a_cons (d_str) (a_nil))))) (a_nil))) (a_nil))))))) (s_cons (s_expr (d_app 3 (d_met (k := 8) (t__law_met T 8) T.xf (by decide +kernel) tab rfl rfl (by kernel_rfl) (by kernel_rfl) rfl (fun _ _ _ _ _ => rfl) (hr.mono (by decide)) hg (fun A outer s H f c E n hr hg hn => by subst hn; exact d_callH h_led (hr.mono (by decide)) hg (a_cons (d_var 0) (a_cons (d_var 1) (a_nil)))) (fun A outer s H f c E n hr hg hn tk => by subst hn; exact z_call z_led (pass_of tk) (hr.mono (by decide)) hg (a_cons (d_var 0) (a_cons (d_var 1) (a_nil))))))) (s_cons (s_expr (d_app 3 (d_met (k := 8) (t__law_met T 8) T.xf (by decide +kernel) tab rfl rfl (by kernel_rfl) (by kernel_rfl) rfl (fun _ _ _ _ _ => rfl) (hr.mono (by decide)) hg (fun A outer s H f c E n hr hg hn => by subst hn; exact d_callH h_led (hr.mono (by decide)) hg (a_cons (d_var 0) (a_cons (d_var 1) (a_nil)))) (fun A outer s H f c E n hr hg hn tk => by subst hn; exact z_call z_led (pass_of tk) (hr.mono (by decide)) hg (a_cons (d_var 0) (a_cons (d_var 1) (a_nil))))))) (s_cons (s_setN 4 sc__law_right.nd (d_lst (a_cons (d_str) (a_cons (d_str) (a_cons (d_str) (a_cons (d_str) (a_cons (d_str) (a_cons (d_add (d_str) (d_repr hr hg T.n_repr (a_cons (d_var 7) (a_nil)))) (a_cons (d_str) (a_cons (d_str) (a_cons (d_str) (a_cons (d_str) (a_nil))))))))))))) (s_one (s_ret (d_eq hr (d_var 3) (d_add (d_var 4) (d_frz (d_lst (a_cons (d_str) (a_cons (d_str) (a_cons (d_str) (a_nil)))))))))))))))))))))))))))))))
theorem sc_law : FnScope ["_law_script", "_law_made", "_law_rests", "_law_at", "_law_cup_here", "_law_turn", "_law_told"] ["_law_script"] (defScope s_law) := ⟨rfl, rfl, rfl, by decide +kernel, rfl, by decide +kernel, by decide +kernel⟩
def b_law : MS := seqM (parM 1 2 (consA (makM "Sum" m_Sum___init__ (apA (consA (cM (.str "ab")) (consA (frzM (dispM [(cM (.str "ab"), cM (.int 1)), (cM (.str ""), unM (u1 fun i => .int (-i)) (cM (.int 2)))])) (nilA))) (csA [.non, .bl true]))) (consA (makM "Sum" m_Sum___init__ (apA (consA (cM (.str "ab")) (consA (frzM (dispM [(cM (.str "ab"), cM (.int 1)), (cM (.str "b"), cM (.int 2))])) (nilA))) (apA (consA (cM (.int 5)) (nilA)) (csA [.bl true])))) (nilA)))) (seqM (forM (itR1 (consA (cbM maxD (consA (cM (.int 1)) (consA (cbM minD (consA (cM (.int 4)) (consA (cbM lenD (consA (varM 0) (nilA))) (nilA)))) (nilA)))) (nilA))) (nameG 3) (seqM (asgN (callN m__law_cup (consA (varM 0) (consA (varM 3) (nilA)))) 4) (forM (itR1 (consA (cM (.int 2)) (nilA))) (nameG 5) (ifS (notT (bM (callC 4 m__law_right (consA (varM 1) (consA (varM 2) (nilA)))))) (retM (cM (.bl false))) (nxM))))) (seqM (asgN (lstM (consA (tryMe xrs xsub xflds cl__law_met "good" [] (callM m_binomial_of (consA (makM "Sum" m_Sum___init__ (apA (consA (cM (.str "a")) (consA (frzM (dispM [(cM (.str "aaaa"), cM (.int 1))])) (nilA))) (csA [.non, .bl true]))) (consA (cM (.int 4)) (nilA)))) (orZ (callZ x_binomial_of (consA (makM "Sum" m_Sum___init__ (apA (consA (cM (.str "a")) (consA (frzM (dispM [(cM (.str "aaaa"), cM (.int 1))])) (nilA))) (csA [.non, .bl true]))) (consA (cM (.int 4)) (nilA)))) (makZ "Sum" x_Sum___init__ (apA (consA (cM (.str "a")) (consA (frzM (dispM [(cM (.str "aaaa"), cM (.int 1))])) (nilA))) (csA [.non, .bl true]))))) (nilA))) 6) (seqM (exM (appM 6 (tryMe xrs xsub xflds cl__law_met "good" [] (callM m_binomial_of (consA (makM "Sum" m_Sum___init__ (apA (consA (cM (.str "a")) (consA (frzM (dispM [(cM (.str "aaaa"), cM (.int 1))])) (nilA))) (csA [.non, .bl true]))) (consA (cM (.int 3)) (nilA)))) (orZ (callZ x_binomial_of (consA (makM "Sum" m_Sum___init__ (apA (consA (cM (.str "a")) (consA (frzM (dispM [(cM (.str "aaaa"), cM (.int 1))])) (nilA))) (csA [.non, .bl true]))) (consA (cM (.int 3)) (nilA)))) (makZ "Sum" x_Sum___init__ (apA (consA (cM (.str "a")) (consA (frzM (dispM [(cM (.str "aaaa"), cM (.int 1))])) (nilA))) (csA [.non, .bl true]))))))) (seqM (exM (appM 6 (tryMe xrs xsub xflds cl__law_met "good" [] (callM m_overlays (consA (cM (.str "ab")) (consA (cM (.str "aaaa")) (consA (cM (.str "aaaa")) (nilA))))) (callZ x_overlays (consA (cM (.str "ab")) (consA (cM (.str "aaaa")) (consA (cM (.str "aaaa")) (nilA)))))))) (retM (andV (binM eqD (varM 6) (frzM (lstM (consA (cM (.str "many 12")) (consA (cM (.str "good")) (consA (cM (.str "good")) (nilA))))))) (binM eqLst (frzM (lstM (consA (cM c_MAX_OVERLAY) (consA (own1M "Sum" m_Sum_weights (callM m_binomial_of (consA (varM 1) (consA (cM (.int 0)) (nilA))))) (nilA))))) (frzM (lstM (consA (cM (.int 8)) (consA (frzM (dispM [(cM (.str ""), cM (.int 1))])) (nilA))))))))))))
def m_law : MS := fnM 1 6 b_law
theorem fn_law {P : Program} {w : World} {K : PySem.W.Frag} {mg : Str → Option Value} {base : Heap} {cd f : Addr} {fd : FuncData} (T : Txt P K mg) (U : Tbs K mg base) (tab : TabOf base mg "law" cd) (Fu : FunC K "law" s_law cd f fd) : FnD P w K mg base 12 f fd ["_law_script"] m_law := by
  have h_Sum___init__ := ok_Sum___init__ (P := P) (w := w) (base := base) T
  have h_Sum_weights := ok_Sum_weights (P := P) (w := w) (base := base) T
  have h__law_cup := ok__law_cup (P := P) (w := w) (base := base) T
  have h__law_right := ok__law_right (P := P) (w := w) (base := base) T U
  have h_binomial_of := ok_binomial_of (P := P) (w := w) (base := base) T
  have h_overlays := ok_overlays (P := P) (w := w) (base := base) T
  have z_binomial_of := zk_binomial_of (P := P) (w := w) (base := base) T
  have z_overlays := zk_overlays (P := P) (w := w) (base := base) T
  have hx1_Sum___init__ := okx1_Sum___init__ (P := P) (w := w) (base := base) T
  have zx0_Sum___init__ := zkx0_Sum___init__ (P := P) (w := w) (base := base) T
  exact fnDC Fu sc_law rfl rfl (fun A outer s H hr hg => s_cons (s_par 1 2 rfl sc_law.nd (a_cons (d_makeK0 h_Sum___init__ T.mk_Sum (hr.mono (by decide)) hg (fun _ => .cons (.non) (.cons (.bl true) (.nil))) (a_cons (d_str) (a_cons (d_frz (d_disp (p_cons (d_str) (d_int) (p_cons (d_str) (d_neg (d_int)) (p_nil))))) (a_nil)))) (a_cons (d_makeX hx1_Sum___init__ T.mk_Sum (hr.mono (by decide)) hg (fun _ => .cons (.bl true) (.nil)) (a_cons (d_str) (a_cons (d_frz (d_disp (p_cons (d_str) (d_int) (p_cons (d_str) (d_int) (p_nil))))) (a_nil))) (k_cons (d_int) (k_nil)) (len_cons (len_cons (fun _ _ _ h => len_nil h))) (len_cons (fun _ _ _ h => len_nil h))) (a_nil)))) (s_cons (s_for rfl (i_rng1 T.n_range (a_cons (d_max rfl T.n_max (a_cons (d_int) (a_cons (d_min rfl T.n_min (a_cons (d_int) (a_cons (d_len T.n_len (a_cons (d_var 0) (a_nil))) (a_nil)))) (a_nil)))) (a_nil))) (g_name 3 sc_law.nd) (s_cons (s_setN 4 sc_law.nd (d_callNH h__law_cup (hr.mono (by decide)) hg (a_cons (d_var 0) (a_cons (d_var 3) (a_nil))))) (s_one (s_for rfl (i_rng1 T.n_range (a_cons (d_int) (a_nil))) (g_name 5 sc_law.nd) (s_one (s_if (t_not (t_val (d_callCH 4 h__law_right (hr.mono (by decide)) hg (a_cons (d_var 1) (a_cons (d_var 2) (a_nil)))))) (s_one (s_ret (d_bl))) (s_nil))) PassesOwn.never))) PassesOwn.never) (s_cons (s_setN 6 sc_law.nd (d_lst (a_cons (d_met (k := 8) (t__law_met T 8) T.xf (by decide +kernel) tab rfl rfl (by kernel_rfl) (by kernel_rfl) rfl (fun _ _ _ _ _ => rfl) (hr.mono (by decide)) hg (fun A outer s H f c E n hr hg hn => by subst hn; exact d_callH h_binomial_of (hr.mono (by decide)) hg (a_cons (d_makeK0 h_Sum___init__ T.mk_Sum (hr.mono (by decide)) hg (fun _ => .cons (.non) (.cons (.bl true) (.nil))) (a_cons (d_str) (a_cons (d_frz (d_disp (p_cons (d_str) (d_int) (p_nil)))) (a_nil)))) (a_cons (d_int) (a_nil)))) (fun A outer s H f c E n hr hg hn tk => by subst hn; exact ze_or (z_call z_binomial_of (pass_of tk) (hr.mono (by decide)) hg (a_cons (d_makeK0 h_Sum___init__ T.mk_Sum (hr.mono (by decide)) hg (fun _ => .cons (.non) (.cons (.bl true) (.nil))) (a_cons (d_str) (a_cons (d_frz (d_disp (p_cons (d_str) (d_int) (p_nil)))) (a_nil)))) (a_cons (d_int) (a_nil)))) (z_callA h_binomial_of (za_here (z_makeX0 zx0_Sum___init__ T.mk_Sum (pass_of tk) (hr.mono (by decide)) hg (fun _ => .cons (.non) (.cons (.bl true) (.nil))) (a_cons (d_str) (a_cons (d_frz (d_disp (p_cons (d_str) (d_int) (p_nil)))) (a_nil))) (len_cons (len_cons (fun _ _ _ h => len_nil h)))))))) (a_nil)))) (s_cons (s_expr (d_app 6 (d_met (k := 8) (t__law_met T 8) T.xf (by decide +kernel) tab rfl rfl (by kernel_rfl) (by kernel_rfl) rfl (fun _ _ _ _ _ => rfl) (hr.mono (by decide)) hg (fun A outer s H f c E n hr hg hn => by subst hn; exact d_callH h_binomial_of (hr.mono (by decide)) hg (a_cons (d_makeK0 h_Sum___init__ T.mk_Sum (hr.mono (by decide)) hg (fun _ => .cons (.non) (.cons (.bl true) (.nil))) (a_cons (d_str) (a_cons (d_frz (d_disp (p_cons (d_str) (d_int) (p_nil)))) (a_nil)))) (a_cons (d_int) (a_nil)))) (fun A outer s H f c E n hr hg hn tk => by subst hn; exact ze_or (z_call z_binomial_of (pass_of tk) (hr.mono (by decide)) hg (a_cons (d_makeK0 h_Sum___init__ T.mk_Sum (hr.mono (by decide)) hg (fun _ => .cons (.non) (.cons (.bl true) (.nil))) (a_cons (d_str) (a_cons (d_frz (d_disp (p_cons (d_str) (d_int) (p_nil)))) (a_nil)))) (a_cons (d_int) (a_nil)))) (z_callA h_binomial_of (za_here (z_makeX0 zx0_Sum___init__ T.mk_Sum (pass_of tk) (hr.mono (by decide)) hg (fun _ => .cons (.non) (.cons (.bl true) (.nil))) (a_cons (d_str) (a_cons (d_frz (d_disp (p_cons (d_str) (d_int) (p_nil)))) (a_nil))) (len_cons (len_cons (fun _ _ _ h => len_nil h)))))))))) (s_cons (s_expr (d_app 6 (d_met (k := 5) (t__law_met T 5) T.xf (by decide +kernel) tab rfl rfl (by kernel_rfl) (by kernel_rfl) rfl (fun _ _ _ _ _ => rfl) (hr.mono (by decide)) hg (fun A outer s H f c E n hr hg hn => by subst hn; exact d_callH h_overlays (hr.mono (by decide)) hg (a_cons (d_str) (a_cons (d_str) (a_cons (d_str) (a_nil))))) (fun A outer s H f c E n hr hg hn tk => by subst hn; exact z_call z_overlays (pass_of tk) (hr.mono (by decide)) hg (a_cons (d_str) (a_cons (d_str) (a_cons (d_str) (a_nil)))))))) (s_one (s_ret (d_and (d_eq hr (d_var 6) (d_frz (d_lst (a_cons (d_str) (a_cons (d_str) (a_cons (d_str) (a_nil))))))) (d_one (d_eqL hr (d_frz (d_lst (a_cons (T.c_MAX_OVERLAY.d) (a_cons (d_prop h_Sum_weights (hr.mono (by decide)) hg (d_callH h_binomial_of (hr.mono (by decide)) hg (a_cons (d_var 1) (a_cons (d_int) (a_nil))))) (a_nil))))) (d_frz (d_lst (a_cons (d_int) (a_cons (d_frz (d_disp (p_cons (d_str) (d_int) (p_nil)))) (a_nil)))))))))))))))
end
end Wk15
namespace Wk15
open PySem PySem.Spec PyProof.Rows L2 Dk
set_option exponentiation.threshold 256
section
local instance tab0 : TabP := ⟨[], fun _ => ⟨0, 0, "", [], []⟩⟩
def cup (x y z : Int) : D := .lst [.int x, .int y, .int z]
theorem cMul_ok {i j : Int} (h1 : i.natAbs < 2 ^ 64) (h2 : j.natAbs < 2 ^ 64) : cMul i j = true := by
  have key : ∀ n : Nat, n < 2 ^ 64 → n.log2 < 65 := fun n h => by
    by_cases h0 : n = 0
    · subst h0; decide
    · exact Nat.lt_succ_of_lt ((Nat.log2_lt h0).mpr h)
  unfold cMul
  have a := key _ h1
  have b := key _ h2
  exact decide_eq_true (by omega)
theorem bit {x y z much : Int} (hx : 0 ≤ x) (hm : 0 < much) (hm2 : much ≤ 1000) (hz : 0 ≤ z) (hz2 : z ≤ 1000000) :
    ∃ r x' z' e, m__law_bit [.io (cup x y z), .fz (.int much)] = some (.rt (.int r), .io (cup x' y z') :: e) ∧ 0 ≤ r ∧ r < much ∧ 0 ≤ x' ∧ 0 ≤ z' ∧ z' ≤ z + 1 := by
  have c1 : cDiv x much = true := by
    unfold cDiv
    rw [Bool.and_eq_true]
    refine ⟨decide_eq_true hm, decide_eq_true ?_⟩
    have : much.natAbs < 2 ^ 64 := by omega
    by_cases h0 : much.natAbs = 0
    · rw [h0]; decide
    · exact Nat.lt_of_lt_of_le ((Nat.log2_lt h0).mpr this) (by decide)
  have c2 : ∀ i : Int, cMod i much = true := fun i => decide_eq_true hm
  unfold m__law_bit b__law_bit cup
  by_cases h : 0 < x
  · refine ⟨x % much, x / much, z, ?_⟩
    simp [fnM, seqM, ifS, bM, binM, cM, varM, rd, rdR, wk, rdS, tk, ixD, L2.atI, gtD, asgM, nameG, putZ, cbM, consA, nilA, Dk.intD, cmpD, setM, ownD, wr, ixN, retM, modD, i2, divD, mulI, addD, okB, rds, asI, asL, nxM, c1, c2, h]
    refine ⟨Int.emod_nonneg _ (by omega), Int.emod_lt_of_pos _ hm, Int.ediv_nonneg hx (by omega), hz, by omega⟩
  · have f0 : 0 ≤ (y + 1000541 * (z + 1)) % 2305843009213693951 := Int.emod_nonneg _ (by decide)
    have f1 : (y + 1000541 * (z + 1)) % 2305843009213693951 < 2305843009213693951 := Int.emod_lt_of_pos _ (by decide)
    generalize hf : (y + 1000541 * (z + 1)) % 2305843009213693951 = f at f0 f1
    have g0 : 0 ≤ f * f % 2305843009213693921 := Int.emod_nonneg _ (by decide)
    have g1 : f * f % 2305843009213693921 < 2305843009213693921 := Int.emod_lt_of_pos _ (by decide)
    have c3 : cMul 1000541 (z + 1) = true := cMul_ok (by omega) (by omega)
    have c4 : cMul f f = true := cMul_ok (by omega) (by omega)
    have c5 : cMul (f * f % 2305843009213693921) f = true := cMul_ok (by omega) (by omega)
    have c6 : cMul 9341 (z + 1) = true := cMul_ok (by omega) (by omega)
    have d1 : ∀ i : Int, cMod i 2305843009213693951 = true := fun i => rfl
    have d2 : ∀ i : Int, cMod i 2305843009213693921 = true := fun i => rfl
    have d3 : ∀ i : Int, cMod i 2305843009213693907 = true := fun i => rfl
    have d4 : ∀ i : Int, cDiv i 16384 = true := fun i => by unfold cDiv; decide
    refine ⟨(f * f % 2305843009213693921 * f + 9341 * (z + 1)) % 2305843009213693907 / 16384 % much, x, z + 1, ?_⟩
    simp [fnM, seqM, ifS, bM, binM, cM, varM, rd, rdR, wk, rdS, tk, ixD, L2.atI, gtD, asgM, nameG, putZ, cbM, consA, nilA, Dk.intD, cmpD, setM, ownD, wr, ixN, retM, modD, i2, divD, mulI, addD, okB, rds, asI, asL, nxM, c2, c3, c4, c5, c6, d1, d2, d3, d4, h, hf]
    exact ⟨Int.emod_nonneg _ (by omega), Int.emod_lt_of_pos _ hm, hx, by omega⟩
def CupOk (n : Int) (c : D) : Prop := ∃ x y z, c = cup x y z ∧ 0 ≤ x ∧ 0 ≤ z ∧ z ≤ n
theorem bitC {n much : Int} {c : D} (h : CupOk n c) (hn : n ≤ 1000000) (hm : 0 < much) (hm2 : much ≤ 1000) :
    ∃ r c' e, m__law_bit [.io c, .fz (.int much)] = some (.rt (.int r), .io c' :: e) ∧ 0 ≤ r ∧ r < much ∧ CupOk (n + 1) c' := by
  obtain ⟨x, y, z, rfl, hx, hz, hz2⟩ := h
  obtain ⟨r, x', z', e, h1, h2, h3, h4, h5, h6⟩ := bit (y := y) hx hm hm2 hz (by omega)
  exact ⟨r, _, e, h1, h2, h3, x', y, z', rfl, h4, h5, by omega⟩
theorem bM_ev {m : ME} {e e1 : Dk.Env} {b : Bool} (h : m e = some (.v (.bl b), e1)) : bM m e = some (b, e1) := by
  unfold bM
  rw [h]
  rfl
def NoIo (s : Sl) : Prop := ∀ x, s ≠ .io x
theorem pickL {k : Int} {c : D} {items : List D} (h : CupOk k c) (hn : k ≤ 1000000) (h0 : 0 < items.length) (hl : items.length ≤ 1000) :
    ∃ d c' e, m__law_pick [.io c, .fz (.lst items)] = some (.rt d, .io c' :: e) ∧ d ∈ items ∧ CupOk (k + 1) c' := by
  obtain ⟨r, c', e, h1, h2, h3, h4⟩ := bitC (much := items.length) h hn (by omega) (by omega)
  have hlt : r.toNat < items.length := by omega
  have hat : L2.atI items r = some items[r.toNat] := by
    unfold L2.atI ixN
    rw [if_pos h2, if_pos (by omega)]
    exact List.getElem?_eq_getElem hlt
  refine ⟨items[r.toNat], c', [.fz (.lst items)], ?_, List.getElem_mem hlt, h4⟩
  unfold m__law_pick b__law_pick
  simp [fnM, retM, binM, varM, callC, consA, nilA, cbM, rd, rdR, wk, rdS, rds, lenD, tks, tk, ownD, wr, ioOf, resV, h1, ixD, hat]
def cellS : MS := asgM (ifM (bM (binM ltD (varM 1) (cbM lenD (consA (varM 0) (nilA))))) (binM ixD (varM 0) (varM 1)) (binM addD (binM mulI (cM (.int 73)) (varM 1)) (cM (.int 37)))) (nameG 2)
def makeS : MS := seqM (asgM (binM modD (cbM intD (consA (cbM absD (consA (varM 2) (nilA))) (nilA))) (binM powD (binM powD (cM (.int 10)) (cM (.int 61))) (cM (.int 11)))) (nameG 3)) (seqM (asgM (binM addD (binM addD (binM addD (binM mulI (binM modD (cbM intD (consA (varM 3) (nilA))) (cM (.int 2147483179))) (cM (.int 99317))) (binM mulI (cM (.int 9431)) (varM 1))) (binM mulI (cM (.int 53)) (cbM intD (consA (binM ltD (varM 2) (cM (.int 0))) (nilA))))) (cM (.int 67))) (nameG 4)) (retN (lstM (consA (cbM maxD (consA (cM (.int 0)) (consA (binM subD (varM 3) (binM powD (cM (.int 10)) (cM (.int 18)))) (nilA)))) (consA (binM modD (cbM intD (consA (varM 4) (nilA))) (cM (.int 2305843009213693907))) (consA (cM (.int 0)) (nilA)))))))
theorem cup_eq : b__law_cup = seqM cellS makeS := rfl
theorem seq_nx {a b : MS} {e e1 : Dk.Env} (h : a e = some (.nx, e1)) : seqM a b e = b e1 := st_seq h rfl
theorem pow61 : powD (.int 10) (.int 61) = some (.int 10000000000000000000000000000000000000000000000000000000000000) := by kernel_rfl
def bigD : Int := 10000000000000000000000000000000000000000000000000000000000000 ^ 11
theorem big_pos : 0 < bigD := by decide +kernel
theorem pow671 : powD (.int 10000000000000000000000000000000000000000000000000000000000000) (.int 11) = some (.int bigD) := by kernel_rfl
theorem pow18 : powD (.int 10) (.int 18) = some (.int 1000000000000000000) := by kernel_rfl
theorem modL {i j : Int} (h : 0 < j) : modD (.int i) (.int j) = some (.int (i % j)) := by
  simp [modD, i2, okB, cMod, h]
theorem mulL {i j : Int} (h : cMul i j = true) : mulI (.int i) (.int j) = some (.int (i * j)) := by
  simp [mulI, i2, okB, h]
theorem makeOk {s : D} {at' cell : Int} (h0 : 0 ≤ at') (h2 : at' ≤ 1000) : ∃ c e, makeS [.fz s, .fz (.int at'), .fz (.int cell), .no, .no] = some (.rn c, e) ∧ CupOk 0 c := by
  have m1 := modL (i := if cell < 0 then -cell else cell) (j := bigD) big_pos
  generalize hg : (if cell < 0 then -cell else cell) % bigD = g at m1
  have m2 := modL (i := g) (j := 2147483179) (by decide)
  have b0 : 0 ≤ g % 2147483179 := Int.emod_nonneg _ (by decide)
  have b1 : g % 2147483179 < 2147483179 := Int.emod_lt_of_pos _ (by decide)
  generalize hq : g % 2147483179 = q at m2 b0 b1
  have m3 := mulL (i := q) (j := 99317) (cMul_ok (by omega) (by omega))
  have m4 := mulL (i := 9431) (j := at') (cMul_ok (by omega) (by omega))
  have m5 := mulL (i := 53) (j := if decide (cell < 0) = true then 1 else 0) (cMul_ok (by omega) (by split <;> decide))
  have m6 := fun i => modL (i := i) (j := 2305843009213693907) (by decide)
  refine ⟨cup (if g - 1000000000000000000 > 0 then g - 1000000000000000000 else 0) ((q * 99317 + 9431 * at' + 53 * (if decide (cell < 0) = true then 1 else 0) + 67) % 2305843009213693907) 0, [.fz s, .fz (.int at'), .fz (.int cell), .fz (.int g), .fz (.int (q * 99317 + 9431 * at' + 53 * (if decide (cell < 0) = true then 1 else 0) + 67))], ?_, _, _, 0, rfl, ?_, by decide, by decide⟩
  · unfold makeS
    simp only [seqM, asgM, binM, cM, varM, cbM, consA, nilA, rd, rdR, wk, rdS, rds, tk, tks, absD, Dk.intD, pow61, pow671, pow18, m1, m2, m3, m4, m5, m6, nameG, putZ, addD, subD, i2z, ltD, cmpD, maxD, retN, lstM, few, Option.bind_some, Option.map_some, List.getElem?_cons_zero, List.getElem?_cons_succ, List.set_cons_zero, List.set_cons_succ, List.length_cons, List.length_nil]
    rfl
  · split <;> omega
theorem cupOk {ns : List Int} {at' : Int} (h0 : 0 ≤ at') (h2 : at' ≤ 1000) : ∃ c e, m__law_cup [.fz (.scr ns), .fz (.int at')] = some (.rn c, e) ∧ CupOk 0 c := by
  have key : ∃ cell, cellS [.fz (.scr ns), .fz (.int at'), .no, .no, .no] = some (.nx, [.fz (.scr ns), .fz (.int at'), .fz (.int cell), .no, .no]) := by
    have m1 := mulL (i := 73) (j := at') (cMul_ok (by omega) (by omega))
    by_cases h : at' < ns.length
    · have hlt : at'.toNat < ns.length := by omega
      have hat : L2.atI ns at' = some ns[at'.toNat] := by
        unfold L2.atI ixN
        rw [if_pos h0, if_pos (by omega)]
        exact List.getElem?_eq_getElem hlt
      refine ⟨ns[at'.toNat], ?_⟩
      unfold cellS
      simp [asgM, ifM, bM, binM, cM, varM, cbM, consA, nilA, rd, rdR, wk, rdS, rds, tk, ltD, cmpD, lenD, h, ixD, hat, nameG, putZ]
    · refine ⟨73 * at' + 37, ?_⟩
      unfold cellS
      simp [asgM, ifM, bM, binM, cM, varM, cbM, consA, nilA, rd, rdR, wk, rdS, rds, tk, ltD, cmpD, lenD, h, m1, addD, nameG, putZ]
  obtain ⟨cell, hc⟩ := key
  obtain ⟨c, e, h1, h3⟩ := makeOk (s := .scr ns) (cell := cell) h0 h2
  refine ⟨c, e, ?_, h3⟩
  show fnM 2 3 b__law_cup [.fz (.scr ns), .fz (.int at')] = _
  rw [cup_eq]
  show seqM cellS makeS [.fz (.scr ns), .fz (.int at'), .no, .no, .no] = _
  rw [seq_nx hc, h1]
end
set_option exponentiation.threshold 500
section
local instance tabb : TabP := ⟨[], fun _ => ⟨0, 0, "", [], []⟩⟩
def codes (s : Str) : List Nat := s.cps.toList
theorem mk_codes (x : Str) : mkS (codes x) = x := by
  obtain ⟨a⟩ := x
  show (⟨a.toList.toArray⟩ : Str) = ⟨a⟩
  rw [Array.toArray_toList]
theorem codes_inj {x y : Str} (h : codes x = codes y) : x = y := by rw [← mk_codes x, ← mk_codes y, h]
theorem a2_strs : ∀ {l : List Str}, (∀ x ∈ l, okS (codes x) = true) → A2 qS (l.map D.str) (l.map codes)
  | [], _ => .nil
  | x :: r, h => .cons ⟨by rw [mk_codes], h x List.mem_cons_self⟩ (a2_strs fun y hy => h y (List.mem_cons_of_mem _ hy))
theorem eq_strs {l m : List Str} (h : ∀ x ∈ l, okS (codes x) = true) (k : ∀ x ∈ m, okS (codes x) = true) (hl : l.length ≤ 1000000) (hm : m.length ≤ 1000000) : eqD (.lst (l.map .str)) (.lst (m.map .str)) = some (.bl (decide (l = m))) := by
  have q := o2_eq (eq_L eq_S) (a := l.map codes) (b := m.map codes) (by decide) (.lst (l.map .str)) (.lst (m.map .str)) ⟨_, rfl, a2_strs h, by unfold few; exact decide_eq_true (by rw [List.length_map]; exact hl)⟩ ⟨_, rfl, a2_strs k, by unfold few; exact decide_eq_true (by rw [List.length_map]; exact hm)⟩
  obtain ⟨d, h1, h2⟩ := q
  have h1 : eqD (.lst (l.map .str)) (.lst (m.map .str)) = some d := h1
  have h2 : d = .bl (decide (l.map codes = m.map codes)) := h2
  rw [h1, h2]
  congr 2
  rw [decide_eq_decide]
  exact List.map_inj_right fun _ _ => codes_inj
end
set_option exponentiation.threshold 256
section
local instance tab8 : TabP := ⟨[], fun _ => ⟨0, 0, "", [], []⟩⟩
def Ro (l : L) (d : D) (r : Dk.Env) : Prop := l = .v d ∨ ∃ i, l = .s (i + 1) ∧ r[i]? = some (.fz d)
def Cv (m : ME) (c : D) (r : Dk.Env) (d c' : D) : Prop := ∃ l, m (.io c :: r) = some (l, .io c' :: r) ∧ Ro l d r
inductive RoL (r : Dk.Env) : List L → List D → Prop
  | nil : RoL r [] []
  | cons {l : L} {d : D} {ls : List L} {ds : List D} : Ro l d r → RoL r ls ds → RoL r (l :: ls) (d :: ds)
def CvA (m : MA) (c : D) (r : Dk.Env) (ds : List D) (c' : D) : Prop := ∃ ls, m (.io c :: r) = some (ls, .io c' :: r) ∧ RoL r ls ds
section
variable {r : Dk.Env} {c c1 c2 c3 : D}
theorem Ro.tk {l : L} {d : D} (h : Ro l d r) : tk (.io c :: r) l = some (d, .io c :: r) ∧ rd (.io c :: r) l = some (wk d) := by
  rcases h with rfl | ⟨i, rfl, h⟩
  · exact ⟨rfl, rfl⟩
  · constructor
    · unfold Dk.tk; dsimp only; rw [List.getElem?_cons_succ, h]
    · unfold rd rdR; dsimp only; rw [List.getElem?_cons_succ, h]; rfl
theorem RoL.tks : ∀ {ls : List L} {ds : List D}, RoL r ls ds → tks (.io c :: r) ls = some (ds, .io c :: r) ∧ rds (.io c :: r) ls = some (ds.map wk)
  | _, _, .nil => ⟨rfl, rfl⟩
  | _, _, .cons h k => by
    obtain ⟨h1, h2⟩ := h.tk (c := c)
    obtain ⟨k1, k2⟩ := k.tks
    constructor
    · unfold Dk.tks
      rw [h1, Option.bind_some]
      dsimp only
      rw [k1]; rfl
    · unfold rds
      rw [h2, Option.bind_some, k2]; rfl
theorem cv_v {m : ME} {d : D} (h : m (.io c :: r) = some (.v d, .io c1 :: r)) : Cv m c r d c1 := ⟨_, h, .inl rfl⟩
theorem cv_nil : CvA nilA c r [] c := ⟨[], rfl, .nil⟩
theorem cv_cons {m : ME} {a : MA} {d : D} {ds : List D} (h : Cv m c r d c1) (k : CvA a c1 r ds c2) : CvA (consA m a) c r (d :: ds) c2 := by
  obtain ⟨l, h1, h2⟩ := h
  obtain ⟨ls, k1, k2⟩ := k
  refine ⟨l :: ls, ?_, .cons h2 k2⟩
  unfold consA
  rw [h1, Option.bind_some]
  dsimp only
  rw [k1]; rfl
theorem cv_1 {m : ME} {d : D} (h : Cv m c r d c1) : CvA (consA m nilA) c r [d] c1 := cv_cons h cv_nil
theorem cv_call0 {f : MS} {ma : MA} {ds : List D} {y : D} {a : Dk.Env} (h : CvA ma c r ds c1) (hf : f (.io c1 :: ds.map .fz) = some (.rt y, .io c2 :: a)) : Cv (callC 0 f ma) c r y c2 := by
  obtain ⟨l, h1, h2⟩ := h
  refine cv_v ?_
  unfold callC
  show (ma (.io c :: r)).bind _ = _
  rw [h1, Option.bind_some]
  dsimp only
  rw [(h2.tks (c := c1)).1, Option.bind_some]
  dsimp only
  show (f (.io c1 :: ds.map .fz)).bind _ = _
  rw [hf]; rfl
theorem cv_asg {m : ME} {i : Nat} {d : D} (h : Cv m c r d c1) (hi : ∃ s, r[i]? = some s ∧ NoIo s) : asgM m (nameG (i + 1)) (.io c :: r) = some (.nx, .io c1 :: r.set i (.fz d)) := by
  obtain ⟨l, h1, h2⟩ := h
  obtain ⟨s, hs, hn⟩ := hi
  unfold asgM
  rw [h1, Option.bind_some]
  dsimp only
  rw [(h2.tk (c := c1)).1, Option.bind_some]
  dsimp only
  unfold nameG putZ
  rw [List.getElem?_cons_succ, hs]
  cases s with
  | io x => exact absurd rfl (hn x)
  | _ => rfl
theorem cv_app {i : Nat} {m : ME} {d : D} {ds : List D} (hk : r[i]? = some (.ow (.lst ds))) (h : Cv m c r d c1) (hl : ds.length ≤ 1000) : exM (appM (i + 1) m) (.io c :: r) = some (.nx, .io c1 :: r.set i (.ow (.lst (ds ++ [d])))) := by
  obtain ⟨l, h1, h2⟩ := h
  have ho : ∀ c, ownD (.io c :: r) (i + 1) = some (.lst ds) := fun c => by unfold ownD; rw [List.getElem?_cons_succ, hk]
  unfold exM appM
  rw [ho, Option.bind_some]
  show ((m (.io c :: r)).bind _).map _ = _
  rw [h1, Option.bind_some]
  dsimp only
  rw [(h2.tk (c := c1)).1, Option.bind_some]
  dsimp only
  rw [ho, Option.bind_some]
  show ((okB (few ds.length)).bind _).map _ = _
  rw [few_t (by omega)]
  show ((wr (.io c1 :: r) (i + 1) (.lst (ds ++ [d]))).map _).map _ = _
  unfold wr
  rw [List.getElem?_cons_succ, hk]; rfl
end
end
set_option exponentiation.threshold 500
section
local instance tabd : TabP := ⟨[], fun _ => ⟨0, 0, "", [], []⟩⟩
theorem CupOk.mono {n m : Int} {c : D} (h : CupOk n c) (l : n ≤ m) : CupOk m c := by
  obtain ⟨x, y, z, e, h1, h2, h3⟩ := h
  exact ⟨x, y, z, e, h1, h2, by omega⟩
section
variable {e : Dk.Env}
def Rdv (m : ME) (e : Dk.Env) (d : D) : Prop := ∃ l, m e = some (l, e) ∧ rd e l = some d
theorem rv_gv {m : ME} {d : D} (h : Gv m e d) : Rdv m e (wk d) := by
  obtain ⟨l, h1, _, h3⟩ := h
  exact ⟨l, h1, h3⟩
theorem rv_ow {i : Nat} {d : D} (h : e[i]? = some (.ow d)) : Rdv (varM i) e (wk d) := ⟨.s i, by unfold varM; rw [h]; rfl, by unfold rd rdR; dsimp only; rw [h]; rfl⟩
theorem rv_bin {op : D → D → Option D} {ma mb : ME} {a b c : D} (h : Rdv ma e a) (k : Rdv mb e b) (ho : op a b = some c) : Gv (binM op ma mb) e c := by
  obtain ⟨l, h1, r1⟩ := h
  obtain ⟨k, h2, r2⟩ := k
  refine gv_v ?_
  unfold binM
  rw [h1, Option.bind_some]
  dsimp only
  rw [h2, Option.bind_some]
  dsimp only
  rw [r1, Option.bind_some, r2, Option.bind_some, ho]; rfl
end
theorem noio_fz (d : D) : NoIo (.fz d) := fun _ z => (nomatch z)
theorem noio_no : NoIo .no := fun _ z => nomatch z
theorem putZ_any {i : Nat} {d : D} {e : Dk.Env} {s : Sl} (h : e[i]? = some s) (n : NoIo s) : putZ i d e = some (e.set i (.fz d)) := by
  unfold putZ
  rw [h]
  cases s with
  | io x => exact absurd rfl (n x)
  | _ => rfl
theorem tk_fz {e : Dk.Env} {i : Nat} {a : D} (hi : e[i]? = some (.fz a)) : tk e (.s i) = some (a, e) := by
  unfold tk
  dsimp only
  rw [hi]
theorem tks2 {e : Dk.Env} {i j : Nat} {a b : D} (hi : e[i]? = some (.fz a)) (hj : e[j]? = some (.fz b)) : tks e ([i, j].map L.s) = some ([a, b], e) := by
  show ((tk e (.s i)).bind fun p => ((tk p.2 (.s j)).bind fun p => (tks p.2 []).map fun q => (p.1 :: q.1, q.2)).map fun q => (p.1 :: q.1, q.2)) = _
  rw [tk_fz hi, Option.bind_some]
  dsimp only
  rw [tk_fz hj]; rfl
theorem st_app {i : Nat} {m : ME} {ds : List D} (h : Gv m e d) (hk : e[i]? = some (.ow (.lst ds))) (hl : ds.length ≤ 1000) : exM (appM i m) e = some (.nx, e.set i (.ow (.lst (ds ++ [d])))) := by
  obtain ⟨l, h1, h2, _⟩ := h
  have ho : ownD e i = some (.lst ds) := by unfold ownD; rw [hk]
  unfold exM appM
  rw [ho, Option.bind_some]
  show ((some ds).bind _ |>.map _) = _
  rw [Option.bind_some, h1, Option.bind_some]
  dsimp only
  rw [h2, Option.bind_some]
  dsimp only
  rw [ho, Option.bind_some]
  show ((some ds).bind _ |>.map _) = _
  rw [Option.bind_some, few_t (by omega), Option.bind_some]
  unfold wr
  rw [hk]; rfl
def tryV (m : ME) (mx : MX) (ds : List D) : Option D := match m (ds.map .fz) with
  | some _ => some (.str "good")
  | none => (mx (ds.map .fz)).bind fun p => (okB (decide (p.1.n ∈ xrs) && p.1.fs.all fun z => decide ((p.1.n, z.1) ∈ xflds))).bind fun _ => answers xsub cl__law_met p.1
theorem try_v {e : Dk.Env} {js : List Nat} {ds : List D} {m : ME} {mx : MX} {r : D} (hj : tks e (js.map L.s) = some (ds, e)) (h : tryV m mx ds = some r) : Gv (tryMe xrs xsub xflds cl__law_met "good" js m mx) e r := gv_v (by
  unfold tryV at h
  unfold tryMe
  rw [hj, Option.bind_some]
  dsimp only
  cases hm : m (ds.map .fz) with
  | some z => rw [hm] at h; cases h; rfl
  | none =>
    rw [hm] at h
    dsimp only at h
    obtain ⟨p, h1, h⟩ := Option.bind_eq_some_iff.mp h
    obtain ⟨u, h2, h⟩ := Option.bind_eq_some_iff.mp h
    rw [h1, Option.bind_some]
    dsimp only
    rw [h2, Option.bind_some, h]; rfl)
def numS (d : D) : Option Str := match reprD [wk d] with
  | some (.str y) => (match addD (.str "number ") (.str y) with
    | some (.str z) => some z
    | _ => none)
  | _ => none
def same (o : Option D) (s : Option Str) : Bool := match o, s with
  | some (.str x), some y => decide (x = y) && okS (codes y)
  | _, _ => false
theorem same_iff {o : Option D} {s : Option Str} (h : same o s = true) : ∃ y, s = some y ∧ o = some (.str y) ∧ okS (codes y) = true := by
  unfold same at h
  split at h
  · rename_i x y
    have h := Bool.and_eq_true_iff.mp h
    exact ⟨y, rfl, by rw [of_decide_eq_true h.1], h.2⟩
  · cases h
theorem numS_parts {d : D} {y : Str} (h : numS d = some y) : ∃ s, reprD [wk d] = some (.str s) ∧ addD (.str "number ") (.str s) = some (.str y) := by
  unfold numS at h
  split at h
  · rename_i s hs
    split at h
    · rename_i z hz
      cases h
      exact ⟨s, hs, hz⟩
    · cases h
  · cases h
theorem gv_num {e : Dk.Env} {i : Nat} {d : D} {y : Str} (hi : e[i]? = some (.fz d)) (h : numS d = some y) : Gv (binM addD (cM (.str "number ")) (cbM reprD (consA (varM i) (nilA)))) e (.str y) := by
  obtain ⟨s, h1, h2⟩ := numS_parts h
  exact gv_bin (gv_c _) (gv_cb (gv_1 (gv_var hi)) h1) h2
theorem tks1 {e : Dk.Env} {i : Nat} {a : D} (hi : e[i]? = some (.fz a)) : tks e ([i].map L.s) = some ([a], e) := by
  show ((tk e (.s i)).bind fun p => (tks p.2 []).map fun q => (p.1 :: q.1, q.2)) = _
  rw [tk_fz hi]; rfl
theorem name_any {i : Nat} {d : D} {e : Dk.Env} {s : Sl} (h : e[i]? = some s) (n : NoIo s) : nameG i d e = some (e.set i (.fz d)) := putZ_any h n
def tryC (m : ME) (mx : MX) (k : D) (ds : List D) : Option (D × D) := match m (.io k :: ds.map .fz) with
  | some r => (ioOf r.2).map fun o => (.str "good", o)
  | none => (mx (.io k :: ds.map .fz)).bind fun p => (okB (decide (p.1.n ∈ xrs) && p.1.fs.all fun z => decide ((p.1.n, z.1) ∈ xflds))).bind fun _ => (ioOf p.2).bind fun o => (answers xsub cl__law_met p.1).map fun d => (d, o)
theorem try_c {c k2 : D} {r : Dk.Env} {js : List Nat} {ds : List D} {m : ME} {mx : MX} {d : D} (hj : tks (.io c :: r) (js.map L.s) = some (ds, .io c :: r)) (h : tryC m mx c ds = some (d, k2)) : tryMeC xrs xsub xflds cl__law_met "good" 0 js m mx (.io c :: r) = some (.v d, .io k2 :: r) := by
  unfold tryC at h
  unfold tryMeC
  rw [hj, Option.bind_some]
  show ((some c : Option D).bind _) = _
  rw [Option.bind_some]
  cases hm : m (.io c :: ds.map .fz) with
  | some z =>
    rw [hm] at h
    obtain ⟨o, h1, h⟩ := Option.map_eq_some_iff.mp h
    cases h
    dsimp only
    rw [h1]; rfl
  | none =>
    rw [hm] at h
    dsimp only at h
    obtain ⟨p, h1, h⟩ := Option.bind_eq_some_iff.mp h
    obtain ⟨u, h2, h⟩ := Option.bind_eq_some_iff.mp h
    obtain ⟨o, h3, h⟩ := Option.bind_eq_some_iff.mp h
    obtain ⟨d', h4, h⟩ := Option.map_eq_some_iff.mp h
    cases h
    dsimp only
    rw [h1, Option.bind_some, h2, Option.bind_some, h3, Option.bind_some]
    show ((some ((Sl.io k2 :: r : Dk.Env))) : Option Dk.Env).bind _ = _
    rw [Option.bind_some, h4]; rfl
end
set_option exponentiation.threshold 500
section
local instance tabe : TabP := ⟨[], fun _ => ⟨0, 0, "", [], []⟩⟩
def madeD : D := (.obj "Sum" [("own_letters", .str "ab"), ("own_prime", .non), ("own_weights", .dic [(.inr "", .int (-2)), (.inr "ab", .int 1)]), ("own_degree", .int 2)])
def restsD : D := (.obj "Sum" [("own_letters", .str "ab"), ("own_prime", .int 5), ("own_weights", .dic [(.inr "b", .int 2), (.inr "ab", .int 1)]), ("own_degree", .int 2)])
def LN : List D := [.non, .int 0, .str "", .str "ba", .str "aa", .str "abcd", .str "A", .hup [.str "a"], .bl true]
def LB : List D := [.non, .int 0, .str "c", .str "aB", .hup [.str "a"], .lst [.str "ab"], .str "a b", .bl true, .str (repS "a" 401)]
def LO : List D := [.non, .int 0, .str "sum", .dic [(.inr "", .int (-2)), (.inr "ab", .int 1)], .lst [madeD], .bl true, .dic []]
def LM : List D := [.non, .int (-1), .int 5, .bl true, .str "1", .hup [.int 1], .int (10 ^ 60)]
def LS : List D := [.non, .int 0, .dic [], .str "ab", .lst [.hup [.str "a", .str "b"]], .dic [(.inr "A", .str "a")], .dic [(.inr "ab", .str "a")], .dic [(.inl 0, .str "a")], .dic [(.inr "x", .str "c")], .dic [(.inr "x", .non)], .dic [(.inr "x", .str "aB")]]
def LT : List D := [.non, .int 0, .dic [], .str "ab", .lst [.hup [.str "a", .str "b"]], .dic [(.inr "A", .str "a")], .dic [(.inr "ab", .str "a")], .dic [(.inl 0, .str "a")], .dic [(.inr "x", .str "c")], .dic [(.inr "x", .non)], .dic [(.inr "x", .str "aB")], .dic [(.inr "x", .str (repS "a" 9))], .dic [(.inr "w", .str "a"), (.inr "x", .str "a"), (.inr "y", .str "a"), (.inr "z", .str "a")], .dit [([.inr "x"], .str "a")]]
def LL : List D := [.hup [.str "aaaa", .str "babab"], .hup [.str "", .str (repS "b" 9)], .hup [.str (repS "a" 400), .str ""]]
theorem pick_v {k : Int} {c : D} {items : List D} {r : Dk.Env} {m : ME} (hc : CupOk k c) (hn : k ≤ 1000000) (h0 : 0 < items.length) (hl : items.length ≤ 1000) (hm : m (.io c :: r) = some (.v (.lst items), .io c :: r)) :
    ∃ d c', Cv (callC 0 m__law_pick (consA m nilA)) c r d c' ∧ d ∈ items ∧ CupOk (k + 1) c' := by
  obtain ⟨d, c', e, h1, h2, h3⟩ := pickL hc hn h0 hl
  exact ⟨d, c', cv_call0 (cv_1 (cv_v hm)) h1, h2, h3⟩
abbrev ER (c : D) (s3 s4 s5 s6 s7 s8 s9 s10 : Sl) : Dk.Env := [.io c, .fz madeD, .fz restsD, s3, s4, s5, s6, s7, s8, s9, s10]
def rt0 : MS := asgM (callC 0 m__law_pick (consA (frzM (lstM (consA (cM .non) (consA (cM (.int 0)) (consA (cM (.str "")) (consA (cM (.str "ba")) (consA (cM (.str "aa")) (consA (cM (.str "abcd")) (consA (cM (.str "A")) (consA (tupM (consA (cM (.str "a")) (nilA))) (consA (cM (.bl true)) (nilA)))))))))))) (nilA))) (nameG 8)
def rt1 : MS := asgM (callC 0 m__law_pick (consA (frzM (lstM (consA (cM .non) (consA (cM (.int 0)) (consA (cM (.str "c")) (consA (cM (.str "aB")) (consA (tupM (consA (cM (.str "a")) (nilA))) (consA (frzM (lstM (consA (cM (.str "ab")) (nilA)))) (consA (cM (.str "a b")) (consA (cM (.bl true)) (consA (binM mulS (cM (.str "a")) (cM (.int 401))) (nilA)))))))))))) (nilA))) (nameG 5)
def rt2 : MS := asgM (callC 0 m__law_pick (consA (frzM (lstM (consA (cM .non) (consA (cM (.int 0)) (consA (cM (.str "sum")) (consA (own1M "Sum" m_Sum_weights (varM 1)) (consA (frzM (lstM (consA (varM 1) (nilA)))) (consA (cM (.bl true)) (consA (frzM (newD)) (nilA)))))))))) (nilA))) (nameG 9)
def rt3 : MS := asgM (callC 0 m__law_pick (consA (frzM (lstM (consA (cM .non) (consA (unM (u1 fun i => .int (-i)) (cM (.int 1))) (consA (cM (.int 5)) (consA (cM (.bl true)) (consA (cM (.str "1")) (consA (tupM (consA (cM (.int 1)) (nilA))) (consA (binM powD (cM (.int 10)) (cM (.int 60))) (nilA)))))))))) (nilA))) (nameG 7)
def rt4 : MS := asgN (lstM (consA (cM .non) (consA (cM (.int 0)) (consA (frzM (newD)) (consA (cM (.str "ab")) (consA (frzM (lstM (consA (tupM (consA (cM (.str "a")) (consA (cM (.str "b")) (nilA)))) (nilA)))) (consA (frzM (dispM [ (cM (.str "A") , cM (.str "a")) ])) (consA (frzM (dispM [ (cM (.str "ab") , cM (.str "a")) ])) (consA (frzM (dispM [ (cM (.int 0) , cM (.str "a")) ])) (consA (frzM (dispM [ (cM (.str "x") , cM (.str "c")) ])) (consA (frzM (dispM [ (cM (.str "x") , cM .non) ])) (consA (frzM (dispM [ (cM (.str "x") , cM (.str "aB")) ])) (nilA))))))))))))) 10
def rt5 : MS := asgM (callC 0 m__law_pick (consA (binM addX (varM 10) (frzM (lstM (consA (frzM (dispM [ (cM (.str "x") , binM mulS (cM (.str "a")) (cM (.int 9))) ])) (consA (frzM (dispM [ (cM (.str "w") , cM (.str "a")) , (cM (.str "x") , cM (.str "a")) , (cM (.str "y") , cM (.str "a")) , (cM (.str "z") , cM (.str "a")) ])) (consA (frzM (dispT (tupM (consA (cM (.str "x")) (nilA))) (cM (.str "a")))) (nilA))))))) (nilA))) (nameG 10)
def rt6 : MS := asgM (callC 0 m__law_pick (consA (frzM (lstM (consA (tupM (consA (cM (.str "aaaa")) (consA (cM (.str "babab")) (nilA)))) (consA (tupM (consA (cM (.str "")) (consA (binM mulS (cM (.str "b")) (cM (.int 9))) (nilA)))) (consA (tupM (consA (binM mulS (cM (.str "a")) (cM (.int 400))) (consA (cM (.str "")) (nilA)))) (nilA)))))) (nilA))) (nameG 6)
def rt7 : MS := asgN (lstM (consA (tryMe xrs xsub xflds cl__law_met "good" [5, 8] (callM m_overlays (consA (varM 1) (consA (varM 0) (consA (varM 0) (nilA))))) (callZ x_overlays (consA (varM 1) (consA (varM 0) (consA (varM 0) (nilA)))))) (nilA))) 3
def rt8 : MS := exM (appM 3 (tryMe xrs xsub xflds cl__law_met "good" [5, 6] (callM m_overlays (consA (cM (.str "ab")) (consA (varM 0) (consA (binM ixD (varM 1) (cM (.int 1))) (nilA))))) (callZ x_overlays (consA (cM (.str "ab")) (consA (varM 0) (consA (binM ixD (varM 1) (cM (.int 1))) (nilA)))))))
def rt9 : MS := exM (appM 3 (tryMe xrs xsub xflds cl__law_met "good" [5] (callM m_overlays (consA (cM (.str "ab")) (consA (binM mulS (cM (.str "a")) (cM (.int 9))) (consA (varM 0) (nilA))))) (callZ x_overlays (consA (cM (.str "ab")) (consA (binM mulS (cM (.str "a")) (cM (.int 9))) (consA (varM 0) (nilA)))))))
def rt10 : MS := exM (appM 3 (tryMe xrs xsub xflds cl__law_met "good" [6] (callM m_overlays (consA (cM (.str "ab")) (consA (binM ixD (varM 0) (cM (.int 0))) (consA (binM ixD (varM 0) (cM (.int 1))) (nilA))))) (callZ x_overlays (consA (cM (.str "ab")) (consA (binM ixD (varM 0) (cM (.int 0))) (consA (binM ixD (varM 0) (cM (.int 1))) (nilA)))))))
def rt11 : MS := exM (appM 3 (tryMe xrs xsub xflds cl__law_met "good" [7, 9] (callM m_binomial_of (consA (varM 1) (consA (varM 0) (nilA)))) (callZ x_binomial_of (consA (varM 1) (consA (varM 0) (nilA))))))
def rt12 : MS := exM (appM 3 (tryMe xrs xsub xflds cl__law_met "good" [2, 7] (callM m_binomial_of (consA (varM 0) (consA (varM 1) (nilA)))) (callZ x_binomial_of (consA (varM 0) (consA (varM 1) (nilA))))))
def rt13 : MS := exM (appM 3 (tryMe xrs xsub xflds cl__law_met "good" [2] (callM m_binomial_of (consA (varM 0) (consA (cM (.int 2)) (nilA)))) (callZ x_binomial_of (consA (varM 0) (consA (cM (.int 2)) (nilA))))))
def rt14 : MS := exM (appM 3 (tryMe xrs xsub xflds cl__law_met "good" [9] (callM m_turned_round (consA (varM 0) (nilA))) (callZ x_turned_round (consA (varM 0) (nilA)))))
def rt15 : MS := exM (appM 3 (tryMe xrs xsub xflds cl__law_met "good" [8, 9] (callM m_renamed (consA (varM 1) (consA (varM 0) (nilA)))) (callZ x_renamed (consA (varM 1) (consA (varM 0) (nilA))))))
def rt16 : MS := exM (appM 3 (tryMe xrs xsub xflds cl__law_met "good" [1, 8] (callM m_renamed (consA (varM 0) (consA (varM 1) (nilA)))) (callZ x_renamed (consA (varM 0) (consA (varM 1) (nilA))))))
def rt17 : MS := exM (appM 3 (tryMeC xrs xsub xflds cl__law_met "good" 0 [1] (callM m_renamed (consA (varM 1) (consA (callC 0 m__law_pick (consA (frzM (lstM (consA (cM (.str "a")) (consA (cM (.str "abc")) (nilA))))) (nilA))) (nilA)))) (callZ x_renamed (consA (varM 1) (consA (callC 0 m__law_pick (consA (frzM (lstM (consA (cM (.str "a")) (consA (cM (.str "abc")) (nilA))))) (nilA))) (nilA))))))
def rt18 : MS := exM (appM 3 (tryMe xrs xsub xflds cl__law_met "good" [9, 10] (callM m_led (consA (varM 0) (consA (varM 1) (nilA)))) (callZ x_led (consA (varM 0) (consA (varM 1) (nilA))))))
def rt19 : MS := exM (appM 3 (tryMe xrs xsub xflds cl__law_met "good" [1, 10] (callM m_led (consA (varM 0) (consA (varM 1) (nilA)))) (callZ x_led (consA (varM 0) (consA (varM 1) (nilA))))))
def rt20 : MS := asgN (lstM (consA (cM (.str "letters")) (consA (cM (.str "pattern")) (consA (cM (.str "pattern")) (consA (cM (.str "many 8")) (consA (cM (.str "sum")) (consA (binM addD (cM (.str "number ")) (cbM reprD (consA (varM 7) (nilA)))) (consA (cM (.str "operation")) (consA (cM (.str "sum")) (consA (cM (.str "sum")) (consA (cM (.str "letters")) (nilA)))))))))))) 4
def rt21 : MS := retM (binM eqD (varM 3) (binM addD (varM 4) (frzM (lstM (consA (cM (.str "operation")) (consA (cM (.str "sum")) (consA (cM (.str "operation")) (nilA))))))))
theorem right_eq : b__law_right = seqM rt0 (seqM rt1 (seqM rt2 (seqM rt3 (seqM rt4 (seqM rt5 (seqM rt6 (seqM rt7 (seqM rt8 (seqM rt9 (seqM rt10 (seqM rt11 (seqM rt12 (seqM rt13 (seqM rt14 (seqM rt15 (seqM rt16 (seqM rt17 (seqM rt18 (seqM rt19 (seqM rt20 (rt21))))))))))))))))))))) := rfl
abbrev pm0 : ME := frzM (lstM (consA (cM .non) (consA (cM (.int 0)) (consA (cM (.str "")) (consA (cM (.str "ba")) (consA (cM (.str "aa")) (consA (cM (.str "abcd")) (consA (cM (.str "A")) (consA (tupM (consA (cM (.str "a")) (nilA))) (consA (cM (.bl true)) (nilA)))))))))))
theorem pk0 (c : D) (s3 s4 s5 s6 s7 s8 s9 s10 : Sl) : pm0 (ER c s3 s4 s5 s6 s7 s8 s9 s10) = some (.v (.lst LN), (ER c s3 s4 s5 s6 s7 s8 s9 s10)) := by kernel_rfl
abbrev pm1 : ME := frzM (lstM (consA (cM .non) (consA (cM (.int 0)) (consA (cM (.str "c")) (consA (cM (.str "aB")) (consA (tupM (consA (cM (.str "a")) (nilA))) (consA (frzM (lstM (consA (cM (.str "ab")) (nilA)))) (consA (cM (.str "a b")) (consA (cM (.bl true)) (consA (binM mulS (cM (.str "a")) (cM (.int 401))) (nilA)))))))))))
theorem pk1 (c : D) (s3 s4 s5 s6 s7 s8 s9 s10 : Sl) : pm1 (ER c s3 s4 s5 s6 s7 s8 s9 s10) = some (.v (.lst LB), (ER c s3 s4 s5 s6 s7 s8 s9 s10)) := by kernel_rfl
abbrev pm2 : ME := frzM (lstM (consA (cM .non) (consA (cM (.int 0)) (consA (cM (.str "sum")) (consA (own1M "Sum" m_Sum_weights (varM 1)) (consA (frzM (lstM (consA (varM 1) (nilA)))) (consA (cM (.bl true)) (consA (frzM (newD)) (nilA)))))))))
theorem pk2 (c : D) (s3 s4 s5 s6 s7 s8 s9 s10 : Sl) : pm2 (ER c s3 s4 s5 s6 s7 s8 s9 s10) = some (.v (.lst LO), (ER c s3 s4 s5 s6 s7 s8 s9 s10)) := by kernel_rfl
abbrev pm3 : ME := frzM (lstM (consA (cM .non) (consA (unM (u1 fun i => .int (-i)) (cM (.int 1))) (consA (cM (.int 5)) (consA (cM (.bl true)) (consA (cM (.str "1")) (consA (tupM (consA (cM (.int 1)) (nilA))) (consA (binM powD (cM (.int 10)) (cM (.int 60))) (nilA)))))))))
theorem pk3 (c : D) (s3 s4 s5 s6 s7 s8 s9 s10 : Sl) : pm3 (ER c s3 s4 s5 s6 s7 s8 s9 s10) = some (.v (.lst LM), (ER c s3 s4 s5 s6 s7 s8 s9 s10)) := by kernel_rfl
abbrev pm5 : ME := binM addX (varM 10) (frzM (lstM (consA (frzM (dispM [ (cM (.str "x") , binM mulS (cM (.str "a")) (cM (.int 9))) ])) (consA (frzM (dispM [ (cM (.str "w") , cM (.str "a")) , (cM (.str "x") , cM (.str "a")) , (cM (.str "y") , cM (.str "a")) , (cM (.str "z") , cM (.str "a")) ])) (consA (frzM (dispT (tupM (consA (cM (.str "x")) (nilA))) (cM (.str "a")))) (nilA))))))
theorem pk5 (c : D) (s3 s4 s5 s6 s7 s8 s9 s10 : Sl) : pm5 (ER c s3 s4 s5 s6 s7 s8 s9 (.ow (.lst LS))) = some (.v (.lst LT), (ER c s3 s4 s5 s6 s7 s8 s9 (.ow (.lst LS)))) := by kernel_rfl
abbrev pm6 : ME := frzM (lstM (consA (tupM (consA (cM (.str "aaaa")) (consA (cM (.str "babab")) (nilA)))) (consA (tupM (consA (cM (.str "")) (consA (binM mulS (cM (.str "b")) (cM (.int 9))) (nilA)))) (consA (tupM (consA (binM mulS (cM (.str "a")) (cM (.int 400))) (consA (cM (.str "")) (nilA)))) (nilA)))))
theorem pk6 (c : D) (s3 s4 s5 s6 s7 s8 s9 s10 : Sl) : pm6 (ER c s3 s4 s5 s6 s7 s8 s9 s10) = some (.v (.lst LL), (ER c s3 s4 s5 s6 s7 s8 s9 s10)) := by kernel_rfl
end
set_option exponentiation.threshold 500
section
local instance tabf : TabP := ⟨[], fun _ => ⟨0, 0, "", [], []⟩⟩
abbrev Y7 : ME := callM m_overlays (consA (varM 1) (consA (varM 0) (consA (varM 0) (nilA))))
abbrev Z7 : MX := callZ x_overlays (consA (varM 1) (consA (varM 0) (consA (varM 0) (nilA))))
abbrev Y8 : ME := callM m_overlays (consA (cM (.str "ab")) (consA (varM 0) (consA (binM ixD (varM 1) (cM (.int 1))) (nilA))))
abbrev Z8 : MX := callZ x_overlays (consA (cM (.str "ab")) (consA (varM 0) (consA (binM ixD (varM 1) (cM (.int 1))) (nilA))))
abbrev Y9 : ME := callM m_overlays (consA (cM (.str "ab")) (consA (binM mulS (cM (.str "a")) (cM (.int 9))) (consA (varM 0) (nilA))))
abbrev Z9 : MX := callZ x_overlays (consA (cM (.str "ab")) (consA (binM mulS (cM (.str "a")) (cM (.int 9))) (consA (varM 0) (nilA))))
abbrev Y10 : ME := callM m_overlays (consA (cM (.str "ab")) (consA (binM ixD (varM 0) (cM (.int 0))) (consA (binM ixD (varM 0) (cM (.int 1))) (nilA))))
abbrev Z10 : MX := callZ x_overlays (consA (cM (.str "ab")) (consA (binM ixD (varM 0) (cM (.int 0))) (consA (binM ixD (varM 0) (cM (.int 1))) (nilA))))
abbrev Y11 : ME := callM m_binomial_of (consA (varM 1) (consA (varM 0) (nilA)))
abbrev Z11 : MX := callZ x_binomial_of (consA (varM 1) (consA (varM 0) (nilA)))
abbrev Y12 : ME := callM m_binomial_of (consA (varM 0) (consA (varM 1) (nilA)))
abbrev Z12 : MX := callZ x_binomial_of (consA (varM 0) (consA (varM 1) (nilA)))
abbrev Y13 : ME := callM m_binomial_of (consA (varM 0) (consA (cM (.int 2)) (nilA)))
abbrev Z13 : MX := callZ x_binomial_of (consA (varM 0) (consA (cM (.int 2)) (nilA)))
abbrev Y14 : ME := callM m_turned_round (consA (varM 0) (nilA))
abbrev Z14 : MX := callZ x_turned_round (consA (varM 0) (nilA))
abbrev Y15 : ME := callM m_renamed (consA (varM 1) (consA (varM 0) (nilA)))
abbrev Z15 : MX := callZ x_renamed (consA (varM 1) (consA (varM 0) (nilA)))
abbrev Y16 : ME := callM m_renamed (consA (varM 0) (consA (varM 1) (nilA)))
abbrev Z16 : MX := callZ x_renamed (consA (varM 0) (consA (varM 1) (nilA)))
abbrev Y17 : ME := callM m_renamed (consA (varM 1) (consA (callC 0 m__law_pick (consA (frzM (lstM (consA (cM (.str "a")) (consA (cM (.str "abc")) (nilA))))) (nilA))) (nilA)))
abbrev Z17 : MX := callZ x_renamed (consA (varM 1) (consA (callC 0 m__law_pick (consA (frzM (lstM (consA (cM (.str "a")) (consA (cM (.str "abc")) (nilA))))) (nilA))) (nilA)))
abbrev Y18 : ME := callM m_led (consA (varM 0) (consA (varM 1) (nilA)))
abbrev Z18 : MX := callZ x_led (consA (varM 0) (consA (varM 1) (nilA)))
abbrev Y19 : ME := callM m_led (consA (varM 0) (consA (varM 1) (nilA)))
abbrev Z19 : MX := callZ x_led (consA (varM 0) (consA (varM 1) (nilA)))
theorem t7 {b : D} {n : D} (hn : n ∈ LN) : tryV Y7 Z7 [b, n] = some (.str "letters") := by
  unfold LN at hn
  simp only [List.mem_cons, List.not_mem_nil, or_false] at hn
  rcases hn with rfl | rfl | rfl | rfl | rfl | rfl | rfl | rfl | rfl <;> kernel_rfl
theorem t8 {b : D} {l : D} (hb : b ∈ LB) (hl : l ∈ LL) : tryV Y8 Z8 [b, l] = some (.str "pattern") := by
  unfold LB at hb
  unfold LL at hl
  simp only [List.mem_cons, List.not_mem_nil, or_false] at hb hl
  rcases hb with rfl | rfl | rfl | rfl | rfl | rfl | rfl | rfl | rfl <;> rcases hl with rfl | rfl | rfl <;> kernel_rfl
theorem t9 {b : D} (hb : b ∈ LB) : tryV Y9 Z9 [b] = some (.str "pattern") := by
  unfold LB at hb
  simp only [List.mem_cons, List.not_mem_nil, or_false] at hb
  rcases hb with rfl | rfl | rfl | rfl | rfl | rfl | rfl | rfl | rfl <;> kernel_rfl
theorem t10 {l : D} (hl : l ∈ LL) : tryV Y10 Z10 [l] = some (.str "many 8") := by
  unfold LL at hl
  simp only [List.mem_cons, List.not_mem_nil, or_false] at hl
  rcases hl with rfl | rfl | rfl <;> kernel_rfl
theorem t11 {m : D} {o : D} (ho : o ∈ LO) : tryV Y11 Z11 [m, o] = some (.str "sum") := by
  unfold LO at ho
  simp only [List.mem_cons, List.not_mem_nil, or_false] at ho
  rcases ho with rfl | rfl | rfl | rfl | rfl | rfl | rfl <;> kernel_rfl
theorem t14 {o : D} (ho : o ∈ LO) : tryV Y14 Z14 [o] = some (.str "sum") := by
  unfold LO at ho
  simp only [List.mem_cons, List.not_mem_nil, or_false] at ho
  rcases ho with rfl | rfl | rfl | rfl | rfl | rfl | rfl <;> kernel_rfl
theorem t15 {n : D} {o : D} (ho : o ∈ LO) : tryV Y15 Z15 [n, o] = some (.str "sum") := by
  unfold LO at ho
  simp only [List.mem_cons, List.not_mem_nil, or_false] at ho
  rcases ho with rfl | rfl | rfl | rfl | rfl | rfl | rfl <;> kernel_rfl
theorem t16 {n : D} (hn : n ∈ LN) : tryV Y16 Z16 [madeD, n] = some (.str "letters") := by
  unfold LN at hn
  simp only [List.mem_cons, List.not_mem_nil, or_false] at hn
  rcases hn with rfl | rfl | rfl | rfl | rfl | rfl | rfl | rfl | rfl <;> kernel_rfl
theorem t18 {o : D} {s : D} (ho : o ∈ LO) : tryV Y18 Z18 [o, s] = some (.str "sum") := by
  unfold LO at ho
  simp only [List.mem_cons, List.not_mem_nil, or_false] at ho
  rcases ho with rfl | rfl | rfl | rfl | rfl | rfl | rfl <;> kernel_rfl
theorem t19 {s : D} (hs : s ∈ LT) : tryV Y19 Z19 [madeD, s] = some (.str "operation") := by
  unfold LT at hs
  simp only [List.mem_cons, List.not_mem_nil, or_false] at hs
  rcases hs with rfl | rfl | rfl | rfl | rfl | rfl | rfl | rfl | rfl | rfl | rfl | rfl | rfl | rfl <;> kernel_rfl
theorem t12 {m : D} (hm : m ∈ LM) : same (tryV Y12 Z12 [restsD, m]) (numS m) = true := by
  unfold LM at hm
  simp only [List.mem_cons, List.not_mem_nil, or_false] at hm
  rcases hm with rfl | rfl | rfl | rfl | rfl | rfl | rfl <;> kernel_rfl
theorem t13 : tryV Y13 Z13 [restsD] = some (.str "operation") := by kernel_rfl
def opX : Exc := ⟨"InvalidOperation", []⟩
theorem x_of {o : Option (Exc × Dk.Env)} {x : Exc} (h : o.map Prod.fst = some x) : ∃ e, o = some (x, e) := by
  obtain ⟨p, h1, h2⟩ := Option.map_eq_some_iff.mp h
  exact ⟨p.2, by rw [h1, ← h2]⟩
theorem r17 {d : D} (h : d = .str "a" ∨ d = .str "abc") : m_renamed [.fz madeD, .fz d] = none ∧ ∃ e, x_renamed [.fz madeD, .fz d] = some (opX, e) := by
  rcases h with rfl | rfl
  · exact ⟨by kernel_rfl, x_of (by kernel_rfl)⟩
  · exact ⟨by kernel_rfl, x_of (by kernel_rfl)⟩
end
set_option exponentiation.threshold 500
section
local instance tabg : TabP := ⟨[], fun _ => ⟨0, 0, "", [], []⟩⟩
abbrev PK : ME := callC 0 m__law_pick (consA (frzM (lstM (consA (cM (.str "a")) (consA (cM (.str "abc")) (nilA))))) (nilA))
theorem op_ok : okB (decide (opX.n ∈ xrs) && opX.fs.all fun z => decide ((opX.n, z.1) ∈ xflds)) = some () := by kernel_rfl
theorem op_ans : answers xsub cl__law_met opX = some (.str "operation") := by kernel_rfl
theorem t17 {k : Int} {c : D} (hc : CupOk k c) (hk : k ≤ 1000000) : ∃ c', tryC Y17 Z17 c [madeD] = some (.str "operation", c') ∧ CupOk (k + 1) c' := by
  obtain ⟨d, c', ⟨l, q1, q2⟩, hd, h3⟩ := pick_v (r := [.fz madeD]) (m := frzM (lstM (consA (cM (.str "a")) (consA (cM (.str "abc")) (nilA))))) (items := [.str "a", .str "abc"]) hc hk (by decide) (by decide) (by kernel_rfl)
  simp only [List.mem_cons, List.not_mem_nil, or_false] at hd
  obtain ⟨n1, e2, n2⟩ := r17 hd
  refine ⟨c', ?_, h3⟩
  have q1 : PK [.io c, .fz madeD] = some (l, [.io c', .fz madeD]) := q1
  have ar : consA (varM 1) (consA PK (nilA)) [.io c, .fz madeD] = some ([.s 1, l], [.io c', .fz madeD]) := by
    show (((PK [.io c, .fz madeD]).bind fun p => (nilA p.2).map fun q => (p.1 :: q.1, q.2)).map fun q => (L.s 1 :: q.1, q.2)) = _
    rw [q1]; rfl
  have tk : tks [.io c', .fz madeD] [.s 1, l] = some ([madeD, d], [.io c', .fz madeD]) := by
    have := (q2.tk (c := c')).1
    show (((tk [.io c', .fz madeD] l).bind fun p => (tks p.2 []).map fun q => (p.1 :: q.1, q.2)).map fun q => (madeD :: q.1, q.2)) = _
    rw [this]; rfl
  have m1 : Y17 [.io c, .fz madeD] = none := by
    show ((consA (varM 1) (consA PK (nilA)) [.io c, .fz madeD]).bind fun p => (tks p.2 p.1).bind fun q => (m_renamed (q.1.map .fz)).bind fun r => (resV r.1).map fun d => (L.v d, q.2)) = _
    rw [ar, Option.bind_some]
    dsimp only
    rw [tk, Option.bind_some]
    show ((m_renamed [.fz madeD, .fz d]).bind _) = _
    rw [n1]; rfl
  have x1 : Z17 [.io c, .fz madeD] = some (opX, [.io c', .fz madeD]) := by
    show ((consA (varM 1) (consA PK (nilA)) [.io c, .fz madeD]).bind fun p => (tks p.2 p.1).bind fun q => (x_renamed (q.1.map .fz)).map fun r => (r.1, q.2)) = _
    rw [ar, Option.bind_some]
    dsimp only
    rw [tk, Option.bind_some]
    show ((x_renamed [.fz madeD, .fz d]).map _) = _
    rw [n2]; rfl
  show (match Y17 [.io c, .fz madeD] with
    | some r => (ioOf r.2).map fun o => (D.str "good", o)
    | none => (Z17 [.io c, .fz madeD]).bind fun p => (okB (decide (p.1.n ∈ xrs) && p.1.fs.all fun z => decide ((p.1.n, z.1) ∈ xflds))).bind fun _ => (ioOf p.2).bind fun o => (answers xsub cl__law_met p.1).map fun d => (d, o)) = _
  rw [m1]
  dsimp only
  rw [x1, Option.bind_some]
  dsimp only
  rw [op_ok, Option.bind_some]
  show ((some c' : Option D).bind _) = _
  rw [Option.bind_some, op_ans]; rfl
theorem right_ok {k : Int} {c : D} (hc : CupOk k c) (hk : k ≤ 900000) : ∃ c' e, m__law_right [.io c, .fz madeD, .fz restsD] = some (.rt (.bl true), .io c' :: e) ∧ CupOk (k + 7) c' := by
  obtain ⟨n, c0, q0, hn, k0⟩ := pick_v (items := LN) (r := [.fz madeD, .fz restsD, .no, .no, .no, .no, .no, .no, .no, .no]) (m := pm0) hc (by omega) (by decide) (by decide) (pk0 c _ _ _ _ _ _ _ _)
  have s0 : rt0 (ER c .no .no .no .no .no .no .no .no) = some (.nx, ER c0 .no .no .no .no .no (.fz n) .no .no) := cv_asg (i := 7) q0 ⟨_, rfl, noio_no⟩
  obtain ⟨b, c1, q1, hb, k1⟩ := pick_v (items := LB) (r := [.fz madeD, .fz restsD, .no, .no, .no, .no, .no, (.fz n), .no, .no]) (m := pm1) k0 (by omega) (by decide) (by decide) (pk1 c0 _ _ _ _ _ _ _ _)
  have s1 : rt1 (ER c0 .no .no .no .no .no (.fz n) .no .no) = some (.nx, ER c1 .no .no (.fz b) .no .no (.fz n) .no .no) := cv_asg (i := 4) q1 ⟨_, rfl, noio_no⟩
  obtain ⟨o, c2, q2, ho, k2⟩ := pick_v (items := LO) (r := [.fz madeD, .fz restsD, .no, .no, (.fz b), .no, .no, (.fz n), .no, .no]) (m := pm2) k1 (by omega) (by decide) (by decide) (pk2 c1 _ _ _ _ _ _ _ _)
  have s2 : rt2 (ER c1 .no .no (.fz b) .no .no (.fz n) .no .no) = some (.nx, ER c2 .no .no (.fz b) .no .no (.fz n) (.fz o) .no) := cv_asg (i := 8) q2 ⟨_, rfl, noio_no⟩
  obtain ⟨m, c3, q3, hm, k3⟩ := pick_v (items := LM) (r := [.fz madeD, .fz restsD, .no, .no, (.fz b), .no, .no, (.fz n), (.fz o), .no]) (m := pm3) k2 (by omega) (by decide) (by decide) (pk3 c2 _ _ _ _ _ _ _ _)
  have s3 : rt3 (ER c2 .no .no (.fz b) .no .no (.fz n) (.fz o) .no) = some (.nx, ER c3 .no .no (.fz b) .no (.fz m) (.fz n) (.fz o) .no) := cv_asg (i := 6) q3 ⟨_, rfl, noio_no⟩
  have s4 : rt4 (ER c3 .no .no (.fz b) .no (.fz m) (.fz n) (.fz o) .no) = some (.nx, ER c3 .no .no (.fz b) .no (.fz m) (.fz n) (.fz o) (.ow (.lst LS))) := by kernel_rfl
  obtain ⟨s, c5, q5, hs, k5⟩ := pick_v (items := LT) (r := [.fz madeD, .fz restsD, .no, .no, (.fz b), .no, (.fz m), (.fz n), (.fz o), (.ow (.lst LS))]) (m := pm5) k3 (by omega) (by decide) (by decide) (pk5 c3 _ _ _ _ _ _ _ .no)
  have s5 : rt5 (ER c3 .no .no (.fz b) .no (.fz m) (.fz n) (.fz o) (.ow (.lst LS))) = some (.nx, ER c5 .no .no (.fz b) .no (.fz m) (.fz n) (.fz o) (.fz s)) := cv_asg (i := 9) q5 ⟨_, rfl, fun _ z => nomatch z⟩
  obtain ⟨l, c6, q6, hl, k6⟩ := pick_v (items := LL) (r := [.fz madeD, .fz restsD, .no, .no, (.fz b), .no, (.fz m), (.fz n), (.fz o), (.fz s)]) (m := pm6) k5 (by omega) (by decide) (by decide) (pk6 c5 _ _ _ _ _ _ _ _)
  have s6 : rt6 (ER c5 .no .no (.fz b) .no (.fz m) (.fz n) (.fz o) (.fz s)) = some (.nx, ER c6 .no .no (.fz b) (.fz l) (.fz m) (.fz n) (.fz o) (.fz s)) := cv_asg (i := 5) q6 ⟨_, rfl, noio_no⟩
  obtain ⟨y, n12, t12, o12⟩ := same_iff (t12 hm)
  obtain ⟨c17, z17, k17⟩ := t17 k6 (by omega)
  have s7 : rt7 (ER c6 .no .no (.fz b) (.fz l) (.fz m) (.fz n) (.fz o) (.fz s)) = some (.nx, ER c6 (.ow (.lst [.str "letters"])) .no (.fz b) (.fz l) (.fz m) (.fz n) (.fz o) (.fz s)) := st_asgN (i := 3) (gv_lst (gv_1 (try_v (js := [5, 8]) (tks2 rfl rfl) (t7 hn))) (Nat.le_of_ble_eq_true rfl)) rfl
  have s8 : rt8 (ER c6 (.ow (.lst [.str "letters"])) .no (.fz b) (.fz l) (.fz m) (.fz n) (.fz o) (.fz s)) = some (.nx, ER c6 (.ow (.lst [.str "letters", .str "pattern"])) .no (.fz b) (.fz l) (.fz m) (.fz n) (.fz o) (.fz s)) := st_app (i := 3) (e := ER c6 (.ow (.lst [.str "letters"])) .no (.fz b) (.fz l) (.fz m) (.fz n) (.fz o) (.fz s)) (ds := [.str "letters"]) (try_v (js := [5, 6]) (tks2 rfl rfl) (t8 hb hl)) rfl (Nat.le_of_ble_eq_true rfl)
  have s9 : rt9 (ER c6 (.ow (.lst [.str "letters", .str "pattern"])) .no (.fz b) (.fz l) (.fz m) (.fz n) (.fz o) (.fz s)) = some (.nx, ER c6 (.ow (.lst [.str "letters", .str "pattern", .str "pattern"])) .no (.fz b) (.fz l) (.fz m) (.fz n) (.fz o) (.fz s)) := st_app (i := 3) (e := ER c6 (.ow (.lst [.str "letters", .str "pattern"])) .no (.fz b) (.fz l) (.fz m) (.fz n) (.fz o) (.fz s)) (ds := [.str "letters", .str "pattern"]) (try_v (js := [5]) (tks1 rfl) (t9 hb)) rfl (Nat.le_of_ble_eq_true rfl)
  have s10 : rt10 (ER c6 (.ow (.lst [.str "letters", .str "pattern", .str "pattern"])) .no (.fz b) (.fz l) (.fz m) (.fz n) (.fz o) (.fz s)) = some (.nx, ER c6 (.ow (.lst [.str "letters", .str "pattern", .str "pattern", .str "many 8"])) .no (.fz b) (.fz l) (.fz m) (.fz n) (.fz o) (.fz s)) := st_app (i := 3) (e := ER c6 (.ow (.lst [.str "letters", .str "pattern", .str "pattern"])) .no (.fz b) (.fz l) (.fz m) (.fz n) (.fz o) (.fz s)) (ds := [.str "letters", .str "pattern", .str "pattern"]) (try_v (js := [6]) (tks1 rfl) (t10 hl)) rfl (Nat.le_of_ble_eq_true rfl)
  have s11 : rt11 (ER c6 (.ow (.lst [.str "letters", .str "pattern", .str "pattern", .str "many 8"])) .no (.fz b) (.fz l) (.fz m) (.fz n) (.fz o) (.fz s)) = some (.nx, ER c6 (.ow (.lst [.str "letters", .str "pattern", .str "pattern", .str "many 8", .str "sum"])) .no (.fz b) (.fz l) (.fz m) (.fz n) (.fz o) (.fz s)) := st_app (i := 3) (e := ER c6 (.ow (.lst [.str "letters", .str "pattern", .str "pattern", .str "many 8"])) .no (.fz b) (.fz l) (.fz m) (.fz n) (.fz o) (.fz s)) (ds := [.str "letters", .str "pattern", .str "pattern", .str "many 8"]) (try_v (js := [7, 9]) (tks2 rfl rfl) (t11 ho)) rfl (Nat.le_of_ble_eq_true rfl)
  have s12 : rt12 (ER c6 (.ow (.lst [.str "letters", .str "pattern", .str "pattern", .str "many 8", .str "sum"])) .no (.fz b) (.fz l) (.fz m) (.fz n) (.fz o) (.fz s)) = some (.nx, ER c6 (.ow (.lst [.str "letters", .str "pattern", .str "pattern", .str "many 8", .str "sum", .str y])) .no (.fz b) (.fz l) (.fz m) (.fz n) (.fz o) (.fz s)) := st_app (i := 3) (e := ER c6 (.ow (.lst [.str "letters", .str "pattern", .str "pattern", .str "many 8", .str "sum"])) .no (.fz b) (.fz l) (.fz m) (.fz n) (.fz o) (.fz s)) (ds := [.str "letters", .str "pattern", .str "pattern", .str "many 8", .str "sum"]) (try_v (js := [2, 7]) (tks2 rfl rfl) (t12)) rfl (Nat.le_of_ble_eq_true rfl)
  have s13 : rt13 (ER c6 (.ow (.lst [.str "letters", .str "pattern", .str "pattern", .str "many 8", .str "sum", .str y])) .no (.fz b) (.fz l) (.fz m) (.fz n) (.fz o) (.fz s)) = some (.nx, ER c6 (.ow (.lst [.str "letters", .str "pattern", .str "pattern", .str "many 8", .str "sum", .str y, .str "operation"])) .no (.fz b) (.fz l) (.fz m) (.fz n) (.fz o) (.fz s)) := st_app (i := 3) (e := ER c6 (.ow (.lst [.str "letters", .str "pattern", .str "pattern", .str "many 8", .str "sum", .str y])) .no (.fz b) (.fz l) (.fz m) (.fz n) (.fz o) (.fz s)) (ds := [.str "letters", .str "pattern", .str "pattern", .str "many 8", .str "sum", .str y]) (try_v (js := [2]) (tks1 rfl) (t13)) rfl (Nat.le_of_ble_eq_true rfl)
  have s14 : rt14 (ER c6 (.ow (.lst [.str "letters", .str "pattern", .str "pattern", .str "many 8", .str "sum", .str y, .str "operation"])) .no (.fz b) (.fz l) (.fz m) (.fz n) (.fz o) (.fz s)) = some (.nx, ER c6 (.ow (.lst [.str "letters", .str "pattern", .str "pattern", .str "many 8", .str "sum", .str y, .str "operation", .str "sum"])) .no (.fz b) (.fz l) (.fz m) (.fz n) (.fz o) (.fz s)) := st_app (i := 3) (e := ER c6 (.ow (.lst [.str "letters", .str "pattern", .str "pattern", .str "many 8", .str "sum", .str y, .str "operation"])) .no (.fz b) (.fz l) (.fz m) (.fz n) (.fz o) (.fz s)) (ds := [.str "letters", .str "pattern", .str "pattern", .str "many 8", .str "sum", .str y, .str "operation"]) (try_v (js := [9]) (tks1 rfl) (t14 ho)) rfl (Nat.le_of_ble_eq_true rfl)
  have s15 : rt15 (ER c6 (.ow (.lst [.str "letters", .str "pattern", .str "pattern", .str "many 8", .str "sum", .str y, .str "operation", .str "sum"])) .no (.fz b) (.fz l) (.fz m) (.fz n) (.fz o) (.fz s)) = some (.nx, ER c6 (.ow (.lst [.str "letters", .str "pattern", .str "pattern", .str "many 8", .str "sum", .str y, .str "operation", .str "sum", .str "sum"])) .no (.fz b) (.fz l) (.fz m) (.fz n) (.fz o) (.fz s)) := st_app (i := 3) (e := ER c6 (.ow (.lst [.str "letters", .str "pattern", .str "pattern", .str "many 8", .str "sum", .str y, .str "operation", .str "sum"])) .no (.fz b) (.fz l) (.fz m) (.fz n) (.fz o) (.fz s)) (ds := [.str "letters", .str "pattern", .str "pattern", .str "many 8", .str "sum", .str y, .str "operation", .str "sum"]) (try_v (js := [8, 9]) (tks2 rfl rfl) (t15 ho)) rfl (Nat.le_of_ble_eq_true rfl)
  have s16 : rt16 (ER c6 (.ow (.lst [.str "letters", .str "pattern", .str "pattern", .str "many 8", .str "sum", .str y, .str "operation", .str "sum", .str "sum"])) .no (.fz b) (.fz l) (.fz m) (.fz n) (.fz o) (.fz s)) = some (.nx, ER c6 (.ow (.lst [.str "letters", .str "pattern", .str "pattern", .str "many 8", .str "sum", .str y, .str "operation", .str "sum", .str "sum", .str "letters"])) .no (.fz b) (.fz l) (.fz m) (.fz n) (.fz o) (.fz s)) := st_app (i := 3) (e := ER c6 (.ow (.lst [.str "letters", .str "pattern", .str "pattern", .str "many 8", .str "sum", .str y, .str "operation", .str "sum", .str "sum"])) .no (.fz b) (.fz l) (.fz m) (.fz n) (.fz o) (.fz s)) (ds := [.str "letters", .str "pattern", .str "pattern", .str "many 8", .str "sum", .str y, .str "operation", .str "sum", .str "sum"]) (try_v (js := [1, 8]) (tks2 rfl rfl) (t16 hn)) rfl (Nat.le_of_ble_eq_true rfl)
  have s17 : rt17 (ER c6 (.ow (.lst [.str "letters", .str "pattern", .str "pattern", .str "many 8", .str "sum", .str y, .str "operation", .str "sum", .str "sum", .str "letters"])) .no (.fz b) (.fz l) (.fz m) (.fz n) (.fz o) (.fz s)) = some (.nx, ER c17 (.ow (.lst [.str "letters", .str "pattern", .str "pattern", .str "many 8", .str "sum", .str y, .str "operation", .str "sum", .str "sum", .str "letters", .str "operation"])) .no (.fz b) (.fz l) (.fz m) (.fz n) (.fz o) (.fz s)) := cv_app (i := 2) (r := [.fz madeD, .fz restsD, (.ow (.lst [.str "letters", .str "pattern", .str "pattern", .str "many 8", .str "sum", .str y, .str "operation", .str "sum", .str "sum", .str "letters"])), .no, (.fz b), (.fz l), (.fz m), (.fz n), (.fz o), (.fz s)]) (ds := [.str "letters", .str "pattern", .str "pattern", .str "many 8", .str "sum", .str y, .str "operation", .str "sum", .str "sum", .str "letters"]) rfl (cv_v (try_c (js := [1]) (ds := [madeD]) (tks1 rfl) z17)) (Nat.le_of_ble_eq_true rfl)
  have s18 : rt18 (ER c17 (.ow (.lst [.str "letters", .str "pattern", .str "pattern", .str "many 8", .str "sum", .str y, .str "operation", .str "sum", .str "sum", .str "letters", .str "operation"])) .no (.fz b) (.fz l) (.fz m) (.fz n) (.fz o) (.fz s)) = some (.nx, ER c17 (.ow (.lst [.str "letters", .str "pattern", .str "pattern", .str "many 8", .str "sum", .str y, .str "operation", .str "sum", .str "sum", .str "letters", .str "operation", .str "sum"])) .no (.fz b) (.fz l) (.fz m) (.fz n) (.fz o) (.fz s)) := st_app (i := 3) (e := ER c17 (.ow (.lst [.str "letters", .str "pattern", .str "pattern", .str "many 8", .str "sum", .str y, .str "operation", .str "sum", .str "sum", .str "letters", .str "operation"])) .no (.fz b) (.fz l) (.fz m) (.fz n) (.fz o) (.fz s)) (ds := [.str "letters", .str "pattern", .str "pattern", .str "many 8", .str "sum", .str y, .str "operation", .str "sum", .str "sum", .str "letters", .str "operation"]) (try_v (js := [9, 10]) (tks2 rfl rfl) (t18 ho)) rfl (Nat.le_of_ble_eq_true rfl)
  have s19 : rt19 (ER c17 (.ow (.lst [.str "letters", .str "pattern", .str "pattern", .str "many 8", .str "sum", .str y, .str "operation", .str "sum", .str "sum", .str "letters", .str "operation", .str "sum"])) .no (.fz b) (.fz l) (.fz m) (.fz n) (.fz o) (.fz s)) = some (.nx, ER c17 (.ow (.lst [.str "letters", .str "pattern", .str "pattern", .str "many 8", .str "sum", .str y, .str "operation", .str "sum", .str "sum", .str "letters", .str "operation", .str "sum", .str "operation"])) .no (.fz b) (.fz l) (.fz m) (.fz n) (.fz o) (.fz s)) := st_app (i := 3) (e := ER c17 (.ow (.lst [.str "letters", .str "pattern", .str "pattern", .str "many 8", .str "sum", .str y, .str "operation", .str "sum", .str "sum", .str "letters", .str "operation", .str "sum"])) .no (.fz b) (.fz l) (.fz m) (.fz n) (.fz o) (.fz s)) (ds := [.str "letters", .str "pattern", .str "pattern", .str "many 8", .str "sum", .str y, .str "operation", .str "sum", .str "sum", .str "letters", .str "operation", .str "sum"]) (try_v (js := [1, 10]) (tks2 rfl rfl) (t19 hs)) rfl (Nat.le_of_ble_eq_true rfl)
  have s20 : rt20 (ER c17 (.ow (.lst [.str "letters", .str "pattern", .str "pattern", .str "many 8", .str "sum", .str y, .str "operation", .str "sum", .str "sum", .str "letters", .str "operation", .str "sum", .str "operation"])) .no (.fz b) (.fz l) (.fz m) (.fz n) (.fz o) (.fz s)) = some (.nx, ER c17 (.ow (.lst [.str "letters", .str "pattern", .str "pattern", .str "many 8", .str "sum", .str y, .str "operation", .str "sum", .str "sum", .str "letters", .str "operation", .str "sum", .str "operation"])) (.ow (.lst [.str "letters", .str "pattern", .str "pattern", .str "many 8", .str "sum", .str y, .str "operation", .str "sum", .str "sum", .str "letters"])) (.fz b) (.fz l) (.fz m) (.fz n) (.fz o) (.fz s)) := st_asgN (i := 4) (gv_lst (gv_cons (gv_c _) (gv_cons (gv_c _) (gv_cons (gv_c _) (gv_cons (gv_c _) (gv_cons (gv_c _) (gv_cons (gv_num (i := 7) rfl n12) (gv_cons (gv_c _) (gv_cons (gv_c _) (gv_cons (gv_c _) (gv_cons (gv_c _) (gv_nil))))))))))) (Nat.le_of_ble_eq_true rfl)) rfl
  have oo : ∀ x ∈ (["letters", "pattern", "pattern", "many 8", "sum", y, "operation", "sum", "sum", "letters", "operation", "sum", "operation"] : List Str), okS (codes x) = true := by
    intro x hx
    simp only [List.mem_cons, List.not_mem_nil, or_false] at hx
    rcases hx with rfl | rfl | rfl | rfl | rfl | rfl | rfl | rfl | rfl | rfl | rfl | rfl | rfl
    · decide +kernel
    · decide +kernel
    · decide +kernel
    · decide +kernel
    · decide +kernel
    · exact o12
    · decide +kernel
    · decide +kernel
    · decide +kernel
    · decide +kernel
    · decide +kernel
    · decide +kernel
    · decide +kernel
  have e8 := eq_strs oo oo (by show 13 ≤ 1000000; decide) (by show 13 ≤ 1000000; decide)
  rw [decide_eq_true rfl] at e8
  have ad : Gv (binM addD (varM 4) (frzM (lstM (consA (cM (.str "operation")) (consA (cM (.str "sum")) (consA (cM (.str "operation")) (nilA))))))) (ER c17 (.ow (.lst [.str "letters", .str "pattern", .str "pattern", .str "many 8", .str "sum", .str y, .str "operation", .str "sum", .str "sum", .str "letters", .str "operation", .str "sum", .str "operation"])) (.ow (.lst [.str "letters", .str "pattern", .str "pattern", .str "many 8", .str "sum", .str y, .str "operation", .str "sum", .str "sum", .str "letters"])) (.fz b) (.fz l) (.fz m) (.fz n) (.fz o) (.fz s)) (.lst ((["letters", "pattern", "pattern", "many 8", "sum", y, "operation", "sum", "sum", "letters", "operation", "sum", "operation"] : List Str).map .str)) := rv_bin (rv_ow (i := 4) (d := .lst [.str "letters", .str "pattern", .str "pattern", .str "many 8", .str "sum", .str y, .str "operation", .str "sum", .str "sum", .str "letters"]) rfl) (rv_gv (gv_frz (gv_lst (gv_3 (gv_c (.str "operation")) (gv_c (.str "sum")) (gv_c (.str "operation"))) (Nat.le_of_ble_eq_true rfl)))) rfl
  have s21 : rt21 (ER c17 (.ow (.lst [.str "letters", .str "pattern", .str "pattern", .str "many 8", .str "sum", .str y, .str "operation", .str "sum", .str "sum", .str "letters", .str "operation", .str "sum", .str "operation"])) (.ow (.lst [.str "letters", .str "pattern", .str "pattern", .str "many 8", .str "sum", .str y, .str "operation", .str "sum", .str "sum", .str "letters"])) (.fz b) (.fz l) (.fz m) (.fz n) (.fz o) (.fz s)) = some (.rt (.bl true), ER c17 (.ow (.lst [.str "letters", .str "pattern", .str "pattern", .str "many 8", .str "sum", .str y, .str "operation", .str "sum", .str "sum", .str "letters", .str "operation", .str "sum", .str "operation"])) (.ow (.lst [.str "letters", .str "pattern", .str "pattern", .str "many 8", .str "sum", .str y, .str "operation", .str "sum", .str "sum", .str "letters"])) (.fz b) (.fz l) (.fz m) (.fz n) (.fz o) (.fz s)) := st_ret (rv_bin (rv_ow (i := 3) (d := .lst [.str "letters", .str "pattern", .str "pattern", .str "many 8", .str "sum", .str y, .str "operation", .str "sum", .str "sum", .str "letters", .str "operation", .str "sum", .str "operation"]) rfl) (rv_gv ad) e8)
  refine ⟨c17, [.fz madeD, .fz restsD, (.ow (.lst [.str "letters", .str "pattern", .str "pattern", .str "many 8", .str "sum", .str y, .str "operation", .str "sum", .str "sum", .str "letters", .str "operation", .str "sum", .str "operation"])), (.ow (.lst [.str "letters", .str "pattern", .str "pattern", .str "many 8", .str "sum", .str y, .str "operation", .str "sum", .str "sum", .str "letters"])), (.fz b), (.fz l), (.fz m), (.fz n), (.fz o), (.fz s)], ?_, k17.mono (by omega)⟩
  refine st_fn rfl ?_
  rw [right_eq]
  exact st_seq s0 (st_seq s1 (st_seq s2 (st_seq s3 (st_seq s4 (st_seq s5 (st_seq s6 (st_seq s7 (st_seq s8 (st_seq s9 (st_seq s10 (st_seq s11 (st_seq s12 (st_seq s13 (st_seq s14 (st_seq s15 (st_seq s16 (st_seq s17 (st_seq s18 (st_seq s19 (st_seq s20 (s21)))))))))))))))))))))
end
set_option exponentiation.threshold 500
section
local instance tabh : TabP := ⟨[], fun _ => ⟨0, 0, "", [], []⟩⟩
def st0 : MS := parM 1 2 (consA (makM "Sum" m_Sum___init__ (apA (consA (cM (.str "ab")) (consA (frzM (dispM [ (cM (.str "ab") , cM (.int 1)) , (cM (.str "") , unM (u1 fun i => .int (-i)) (cM (.int 2))) ])) (nilA))) (csA [.non, .bl true]))) (consA (makM "Sum" m_Sum___init__ (apA (consA (cM (.str "ab")) (consA (frzM (dispM [ (cM (.str "ab") , cM (.int 1)) , (cM (.str "b") , cM (.int 2)) ])) (nilA))) (apA (consA (cM (.int 5)) (nilA)) (csA [.bl true])))) (nilA)))
def rngI : MI := itR1 (consA (cbM maxD (consA (cM (.int 1)) (consA (cbM minD (consA (cM (.int 4)) (consA (cbM lenD (consA (varM 0) (nilA))) (nilA)))) (nilA)))) (nilA))
def turnS : MS := ifS (notT (bM (callC 4 m__law_right (consA (varM 1) (consA (varM 2) (nilA)))))) (retM (cM (.bl false))) (nxM)
def bodyS : MS := seqM (asgN (callN m__law_cup (consA (varM 0) (consA (varM 3) (nilA)))) 4) (Dk.forM (itR1 (consA (cM (.int 2)) (nilA))) (nameG 5) turnS)
def st2 : MS := asgN (lstM (consA (tryMe xrs xsub xflds cl__law_met "good" [] (callM m_binomial_of (consA (makM "Sum" m_Sum___init__ (apA (consA (cM (.str "a")) (consA (frzM (dispM [ (cM (.str "aaaa") , cM (.int 1)) ])) (nilA))) (csA [.non, .bl true]))) (consA (cM (.int 4)) (nilA)))) (orZ (callZ x_binomial_of (consA (makM "Sum" m_Sum___init__ (apA (consA (cM (.str "a")) (consA (frzM (dispM [ (cM (.str "aaaa") , cM (.int 1)) ])) (nilA))) (csA [.non, .bl true]))) (consA (cM (.int 4)) (nilA)))) (makZ "Sum" x_Sum___init__ (apA (consA (cM (.str "a")) (consA (frzM (dispM [ (cM (.str "aaaa") , cM (.int 1)) ])) (nilA))) (csA [.non, .bl true]))))) (nilA))) 6
def st3 : MS := exM (appM 6 (tryMe xrs xsub xflds cl__law_met "good" [] (callM m_binomial_of (consA (makM "Sum" m_Sum___init__ (apA (consA (cM (.str "a")) (consA (frzM (dispM [ (cM (.str "aaaa") , cM (.int 1)) ])) (nilA))) (csA [.non, .bl true]))) (consA (cM (.int 3)) (nilA)))) (orZ (callZ x_binomial_of (consA (makM "Sum" m_Sum___init__ (apA (consA (cM (.str "a")) (consA (frzM (dispM [ (cM (.str "aaaa") , cM (.int 1)) ])) (nilA))) (csA [.non, .bl true]))) (consA (cM (.int 3)) (nilA)))) (makZ "Sum" x_Sum___init__ (apA (consA (cM (.str "a")) (consA (frzM (dispM [ (cM (.str "aaaa") , cM (.int 1)) ])) (nilA))) (csA [.non, .bl true]))))))
def st4 : MS := exM (appM 6 (tryMe xrs xsub xflds cl__law_met "good" [] (callM m_overlays (consA (cM (.str "ab")) (consA (cM (.str "aaaa")) (consA (cM (.str "aaaa")) (nilA))))) (callZ x_overlays (consA (cM (.str "ab")) (consA (cM (.str "aaaa")) (consA (cM (.str "aaaa")) (nilA)))))))
def st5 : MS := retM (andV (binM eqD (varM 6) (frzM (lstM (consA (cM (.str "many 12")) (consA (cM (.str "good")) (consA (cM (.str "good")) (nilA))))))) (binM eqLst (frzM (lstM (consA (cM c_MAX_OVERLAY) (consA (own1M "Sum" m_Sum_weights (callM m_binomial_of (consA (varM 1) (consA (cM (.int 0)) (nilA))))) (nilA))))) (frzM (lstM (consA (cM (.int 8)) (consA (frzM (dispM [ (cM (.str "") , cM (.int 1)) ])) (nilA)))))))
theorem law_eq : b_law = seqM st0 (seqM (Dk.forM rngI (nameG 3) bodyS) (seqM st2 (seqM st3 (seqM st4 st5)))) := rfl
abbrev EL (s0 s3 s4 s5 s6 : Sl) : Dk.Env := [s0, .fz madeD, .fz restsD, s3, s4, s5, s6]
theorem first (s0 : Sl) : st0 [s0, .no, .no, .no, .no, .no, .no] = some (.nx, EL s0 .no .no .no .no) := by kernel_rfl
theorem turn_ok {k : Int} {c : D} {s0 s3 s5 : Sl} (hc : CupOk k c) (hk : k ≤ 900000) : ∃ c', turnS (EL s0 s3 (.ow c) s5 .no) = some (.nx, EL s0 s3 (.ow c') s5 .no) ∧ CupOk (k + 7) c' := by
  obtain ⟨c', e, h1, h2⟩ := right_ok hc hk
  refine ⟨c', ?_, h2⟩
  have q := ev_callC (k := 4) (e := EL s0 s3 (.ow c) s5 .no) (gv_2 (gv_var (i := 1) rfl) (gv_var (i := 2) rfl)) rfl h1 rfl rfl
  unfold turnS ifS notT
  rw [bM_ev q]; rfl
theorem body_ok {ns : List Int} {at' : Int} {s4 s5 : Sl} (h0 : 0 ≤ at') (h2 : at' ≤ 1000) (n4 : NoIo s4) (n5 : NoIo s5) :
    ∃ t4 t5, bodyS (EL (.fz (.scr ns)) (.fz (.int at')) s4 s5 .no) = some (.nx, EL (.fz (.scr ns)) (.fz (.int at')) t4 t5 .no) ∧ NoIo t4 ∧ NoIo t5 := by
  obtain ⟨c, e, h1, hc⟩ := cupOk (ns := ns) h0 h2
  have x0 : asgN (callN m__law_cup (consA (varM 0) (consA (varM 3) (nilA)))) 4 (EL (.fz (.scr ns)) (.fz (.int at')) s4 s5 .no) = some (.nx, EL (.fz (.scr ns)) (.fz (.int at')) (.ow c) s5 .no) := by
    have hcn : callN m__law_cup (consA (varM 0) (consA (varM 3) (nilA))) (EL (.fz (.scr ns)) (.fz (.int at')) s4 s5 .no) = some (c, EL (.fz (.scr ns)) (.fz (.int at')) s4 s5 .no) := by
      obtain ⟨ls, k1, k2, _⟩ := gv_2 (e := EL (.fz (.scr ns)) (.fz (.int at')) s4 s5 .no) (m := varM 0) (n := varM 3) (gv_var rfl) (gv_var rfl)
      unfold callN
      rw [k1, Option.bind_some]
      dsimp only
      rw [k2, Option.bind_some]
      show (m__law_cup [.fz (.scr ns), .fz (.int at')]).bind _ = _
      rw [h1]; rfl
    unfold asgN
    rw [hcn]
    cases s4 <;> first | rfl | exact absurd rfl (n4 _)
  obtain ⟨c1, a1, a2⟩ := turn_ok (s0 := .fz (.scr ns)) (s3 := .fz (.int at')) (s5 := .fz (.int 0)) hc (by decide)
  obtain ⟨c2, b1, b2⟩ := turn_ok (s0 := .fz (.scr ns)) (s3 := .fz (.int at')) (s5 := .fz (.int 1)) a2 (by decide)
  have g0 := name_any (i := 5) (d := .int 0) (e := EL (.fz (.scr ns)) (.fz (.int at')) (.ow c) s5 .no) rfl n5
  have g1 := name_any (i := 5) (d := .int 1) (e := EL (.fz (.scr ns)) (.fz (.int at')) (.ow c1) (.fz (.int 0)) .no) rfl (noio_fz _)
  have hr : itR1 (consA (cM (.int 2)) (nilA)) (EL (.fz (.scr ns)) (.fz (.int at')) (.ow c) s5 .no) = some ([.int 0, .int 1], EL (.fz (.scr ns)) (.fz (.int at')) (.ow c) s5 .no) := rfl
  have x1 : Dk.forM (itR1 (consA (cM (.int 2)) (nilA))) (nameG 5) turnS (EL (.fz (.scr ns)) (.fz (.int at')) (.ow c) s5 .no) = some (.nx, EL (.fz (.scr ns)) (.fz (.int at')) (.ow c2) (.fz (.int 1)) .no) := by
    unfold Dk.forM
    rw [hr, Option.bind_some]
    unfold forL
    rw [g0, Option.bind_some]
    show (turnS (EL (.fz (.scr ns)) (.fz (.int at')) (.ow c) (.fz (.int 0)) .no)).bind _ = _
    rw [a1, Option.bind_some]
    dsimp only
    unfold forL
    rw [g1, Option.bind_some]
    show (turnS (EL (.fz (.scr ns)) (.fz (.int at')) (.ow c1) (.fz (.int 1)) .no)).bind _ = _
    rw [b1, Option.bind_some]
    rfl
  exact ⟨.ow c2, .fz (.int 1), st_seq x0 x1, (fun _ z => nomatch z), noio_fz _⟩
abbrev V2 : ME := callM m_binomial_of (consA (makM "Sum" m_Sum___init__ (apA (consA (cM (.str "a")) (consA (frzM (dispM [ (cM (.str "aaaa") , cM (.int 1)) ])) (nilA))) (csA [.non, .bl true]))) (consA (cM (.int 4)) (nilA)))
abbrev U2 : MX := orZ (callZ x_binomial_of (consA (makM "Sum" m_Sum___init__ (apA (consA (cM (.str "a")) (consA (frzM (dispM [ (cM (.str "aaaa") , cM (.int 1)) ])) (nilA))) (csA [.non, .bl true]))) (consA (cM (.int 4)) (nilA)))) (makZ "Sum" x_Sum___init__ (apA (consA (cM (.str "a")) (consA (frzM (dispM [ (cM (.str "aaaa") , cM (.int 1)) ])) (nilA))) (csA [.non, .bl true])))
abbrev V3 : ME := callM m_binomial_of (consA (makM "Sum" m_Sum___init__ (apA (consA (cM (.str "a")) (consA (frzM (dispM [ (cM (.str "aaaa") , cM (.int 1)) ])) (nilA))) (csA [.non, .bl true]))) (consA (cM (.int 3)) (nilA)))
abbrev U3 : MX := orZ (callZ x_binomial_of (consA (makM "Sum" m_Sum___init__ (apA (consA (cM (.str "a")) (consA (frzM (dispM [ (cM (.str "aaaa") , cM (.int 1)) ])) (nilA))) (csA [.non, .bl true]))) (consA (cM (.int 3)) (nilA)))) (makZ "Sum" x_Sum___init__ (apA (consA (cM (.str "a")) (consA (frzM (dispM [ (cM (.str "aaaa") , cM (.int 1)) ])) (nilA))) (csA [.non, .bl true])))
abbrev V4 : ME := callM m_overlays (consA (cM (.str "ab")) (consA (cM (.str "aaaa")) (consA (cM (.str "aaaa")) (nilA))))
abbrev U4 : MX := callZ x_overlays (consA (cM (.str "ab")) (consA (cM (.str "aaaa")) (consA (cM (.str "aaaa")) (nilA))))
theorem v2 : tryV V2 U2 [] = some (.str "many 12") := by kernel_rfl
theorem v3 : tryV V3 U3 [] = some (.str "good") := by kernel_rfl
theorem v4 : tryV V4 U4 [] = some (.str "good") := by kernel_rfl
theorem e2 (s0 s3 s4 s5 : Sl) : st2 (EL s0 s3 s4 s5 .no) = some (.nx, EL s0 s3 s4 s5 (.ow (.lst [.str "many 12"]))) := st_asgN (i := 6) (e := EL s0 s3 s4 s5 .no) (gv_lst (gv_1 (try_v (js := []) rfl v2)) (Nat.le_of_ble_eq_true rfl)) rfl
theorem e3 (s0 s3 s4 s5 : Sl) : st3 (EL s0 s3 s4 s5 (.ow (.lst [.str "many 12"]))) = some (.nx, EL s0 s3 s4 s5 (.ow (.lst [.str "many 12", .str "good"]))) := st_app (i := 6) (e := EL s0 s3 s4 s5 (.ow (.lst [.str "many 12"]))) (ds := [.str "many 12"]) (try_v (js := []) rfl v3) rfl (Nat.le_of_ble_eq_true rfl)
theorem e4 (s0 s3 s4 s5 : Sl) : st4 (EL s0 s3 s4 s5 (.ow (.lst [.str "many 12", .str "good"]))) = some (.nx, EL s0 s3 s4 s5 (.ow (.lst [.str "many 12", .str "good", .str "good"]))) := st_app (i := 6) (e := EL s0 s3 s4 s5 (.ow (.lst [.str "many 12", .str "good"]))) (ds := [.str "many 12", .str "good"]) (try_v (js := []) rfl v4) rfl (Nat.le_of_ble_eq_true rfl)
theorem e5 (s0 s3 s4 s5 : Sl) : st5 (EL s0 s3 s4 s5 (.ow (.lst [.str "many 12", .str "good", .str "good"]))) = some (.rt (.bl true), EL s0 s3 s4 s5 (.ow (.lst [.str "many 12", .str "good", .str "good"]))) := by kernel_rfl
theorem law_true (ns : List Int) : ∃ e, m_law [.fz (.scr ns)] = some (.rt (.bl true), e) := by
  have hr : ∃ m : Nat, 1 ≤ m ∧ m ≤ 4 ∧ rngI (EL (.fz (.scr ns)) .no .no .no .no) = some ((List.range m).map fun (i : Nat) => D.int i, EL (.fz (.scr ns)) .no .no .no .no) := by
    have h3 : ns.length = 0 ∨ ns.length = 1 ∨ ns.length = 2 ∨ ns.length = 3 ∨ 4 ≤ ns.length := by omega
    unfold rngI
    rcases h3 with h | h | h | h | h
    · refine ⟨1, by decide, by decide, ?_⟩
      simp [itR1, cbM, consA, nilA, cM, varM, rd, rdR, wk, rdS, rds, lenD, minD, maxD, h]
      rfl
    · refine ⟨1, by decide, by decide, ?_⟩
      simp [itR1, cbM, consA, nilA, cM, varM, rd, rdR, wk, rdS, rds, lenD, minD, maxD, h]
      rfl
    · refine ⟨2, by decide, by decide, ?_⟩
      simp [itR1, cbM, consA, nilA, cM, varM, rd, rdR, wk, rdS, rds, lenD, minD, maxD, h]
      rfl
    · refine ⟨3, by decide, by decide, ?_⟩
      simp [itR1, cbM, consA, nilA, cM, varM, rd, rdR, wk, rdS, rds, lenD, minD, maxD, h]
      rfl
    · refine ⟨4, by decide, by decide, ?_⟩
      have h' : ¬ ((ns.length : Int) < 4) := by omega
      simp [itR1, cbM, consA, nilA, cM, varM, rd, rdR, wk, rdS, rds, lenD, minD, maxD, h']
      rfl
  obtain ⟨m, hm1, hm4, hr⟩ := hr
  have step : ∀ (ds : List D) (i s4 s5 : Sl), (∀ d ∈ ds, ∃ n : Nat, d = .int n ∧ n ≤ 1000) → NoIo i → NoIo s4 → NoIo s5 → ∃ i' t4 t5, forL (nameG 3) bodyS ds (EL (.fz (.scr ns)) i s4 s5 .no) = some (.nx, EL (.fz (.scr ns)) i' t4 t5 .no) := by
    intro ds
    induction ds with
    | nil => intro i s4 s5 _ _ _ _; exact ⟨i, s4, s5, rfl⟩
    | cons d r ih =>
      intro i s4 s5 hd hi n4 n5
      obtain ⟨n, rfl, hn⟩ := hd d List.mem_cons_self
      obtain ⟨t4, t5, q, m4, m5⟩ := body_ok (ns := ns) (at' := n) (by omega) (by omega) n4 n5
      obtain ⟨i', u4, u5, q2⟩ := ih (.fz (.int n)) t4 t5 (fun d h => hd d (List.mem_cons_of_mem _ h)) (noio_fz _) m4 m5
      refine ⟨i', u4, u5, ?_⟩
      have g := name_any (i := 3) (d := .int n) (e := EL (.fz (.scr ns)) i s4 s5 .no) rfl hi
      unfold forL
      rw [g, Option.bind_some]
      show (bodyS (EL (.fz (.scr ns)) (.fz (.int n)) s4 s5 .no)).bind _ = _
      rw [q, Option.bind_some]
      exact q2
  obtain ⟨i', t4, t5, hl⟩ := step ((List.range m).map fun (i : Nat) => D.int i) .no .no .no (fun d hd => by
    obtain ⟨n, hn, rfl⟩ := List.mem_map.mp hd
    exact ⟨n, rfl, by have := List.mem_range.mp hn; omega⟩) noio_no noio_no noio_no
  have loop : Dk.forM rngI (nameG 3) bodyS (EL (.fz (.scr ns)) .no .no .no .no) = some (.nx, EL (.fz (.scr ns)) i' t4 t5 .no) := by
    unfold Dk.forM
    rw [hr, Option.bind_some]
    exact hl
  have fin : m_law [.fz (.scr ns)] = some (.rt (.bl true), EL (.fz (.scr ns)) i' t4 t5 (.ow (.lst [.str "many 12", .str "good", .str "good"]))) := by
    show fnM 1 6 b_law [.fz (.scr ns)] = _
    rw [law_eq]
    exact st_fn rfl (st_seq (first (.fz (.scr ns))) (st_seq loop (st_seq (e2 _ _ _ _) (st_seq (e3 _ _ _ _) (st_seq (e4 _ _ _ _) (e5 _ _ _ _))))))
  exact ⟨_, fin⟩
end
set_option exponentiation.threshold 10000
theorem defAt_of {K : PySem.W.Frag} {h : Heap} {mg : Str → Option Value} {x : Str} {st : Stmt} {f : Addr} {od an : Option Addr} {sl : Array (Option Value)} {oc kV dc pm cd ct : Value} (X : K.In h) (G : h.Ns mainGlobals mg) (a : PySem.W.nsIn K mainGlobals x = some (some (.ref f)))
    (l : K.lookup f = some ⟨oc, od, .func (PySem.W.fnOf x x (defArgs st) (defBody st) (defScope st) .none kV dc pm an cd ct), sl⟩) (c : PySem.W.codeIn K cd x = true) (k : PySem.W.keepIn K (.ref f) = true) : DefAt K mg x st := ⟨f, _, fun_mk (st := st) l c k, PySem.W.mg_of X G a⟩
theorem glob_int {K : PySem.W.Frag} {h : Heap} {mg : Str → Option Value} {x : Str} {i : Int} {t : Tok} (X : K.In h) (G : h.Ns mainGlobals mg) (a : PySem.W.nsIn K mainGlobals x = some (some (.int i t))) : GlobD K mg x (.int i) := ⟨.int i, _, PySem.W.mg_of X G a, ⟨_, rfl⟩, fun _ => .int i⟩
theorem glob_tup {K : PySem.W.Frag} {h : Heap} {mg : Str → Option Value} {x : Str} {T : Addr} {dd : Option Addr} {its : Array Value} {n : Nat} {sl : Array (Option Value)} {xs : List V} {ds : List D} (X : K.In h) (G : h.Ns mainGlobals mg) (a : PySem.W.nsIn K mainGlobals x = some (some (.ref T)))
    (l : K.lookup T = some ⟨.type "tuple", dd, .seq its n, sl⟩) (hs : its.size ≤ sizeLine) (hv : Vals xs its.toList) (hr : ∀ F : Hp, RpL K F xs ds) : GlobD K mg x (.tup ds) := ⟨.ref T, _, PySem.W.mg_of X G a, rfl, fun F => .tup (.inr ⟨_, _, _, l, rfl, rfl, hs, hv⟩) (hr F)⟩
theorem kitO_of {K : PySem.W.Frag} {C : Addr} {T : String} (hd : PySem.W.hasDictIn K C = true) (ty : PySem.W.typeIn K (.ref C) = some (.type "type")) (h : PySem.W.subIn K (.type T) (.ref C) = some false) : PySem.W.kitOne K (.type T) (.ref C) = some false := by
  obtain ⟨cd, hc, _⟩ := PySem.W.any_some hd
  unfold PySem.W.kitOne
  rw [if_neg (by intro z; cases eq_of_beq z)]
  unfold PySem.W.kitCls
  dsimp only
  rw [hc, ty, if_pos (by simp)]
  exact h
theorem kitF_of {K : PySem.W.Frag} {C : Addr} (hd : PySem.W.hasDictIn K C = true) (ty : PySem.W.typeIn K (.ref C) = some (.type "type")) (h1 : PySem.W.subIn K (.type "NoneType") (.ref C) = some false) (h2 : PySem.W.subIn K (.type "bool") (.ref C) = some false) (h3 : PySem.W.subIn K (.type "int") (.ref C) = some false) (h4 : PySem.W.subIn K (.type "str") (.ref C) = some false) (h5 : PySem.W.subIn K (.type "list") (.ref C) = some false) (h6 : PySem.W.subIn K (.type "tuple") (.ref C) = some false) (h7 : PySem.W.subIn K (.type "dict") (.ref C) = some false) : KitFalse K C := by
  intro T h
  simp only [List.mem_cons, List.not_mem_nil, or_false] at h
  rcases h with rfl | rfl | rfl | rfl | rfl | rfl | rfl
  · exact kitO_of hd ty h1
  · exact kitO_of hd ty h2
  · exact kitO_of hd ty h3
  · exact kitO_of hd ty h4
  · exact kitO_of hd ty h5
  · exact kitO_of hd ty h6
  · exact kitO_of hd ty h7
theorem all_mk {l : PySem.W.OpenLaw} {w : World} {K : PySem.W.Frag} {h : Heap} {mg : Str → Option Value} {fa : Addr} (X : K.In h) (G : h.Ns mainGlobals mg) (hfa : mg "law" = some (.ref fa))
    {C_Sum : Addr}
    {f_is_integer : Addr} {od_is_integer an_is_integer : Option Addr} {sl_is_integer : Array (Option Value)} {oc_is_integer kV_is_integer dc_is_integer pm_is_integer cd_is_integer ct_is_integer : Value}
    {f_is_pattern_within : Addr} {od_is_pattern_within an_is_pattern_within : Option Addr} {sl_is_pattern_within : Array (Option Value)} {oc_is_pattern_within kV_is_pattern_within dc_is_pattern_within pm_is_pattern_within cd_is_pattern_within ct_is_pattern_within : Value}
    {f_are_weights : Addr} {od_are_weights an_are_weights : Option Addr} {sl_are_weights : Array (Option Value)} {oc_are_weights kV_are_weights dc_are_weights pm_are_weights cd_are_weights ct_are_weights : Value}
    {f_ordered : Addr} {od_ordered an_ordered : Option Addr} {sl_ordered : Array (Option Value)} {oc_ordered kV_ordered dc_ordered pm_ordered cd_ordered ct_ordered : Value}
    {f_rest : Addr} {od_rest an_rest : Option Addr} {sl_rest : Array (Option Value)} {oc_rest kV_rest dc_rest pm_rest cd_rest ct_rest : Value}
    {f_kept_weights : Addr} {od_kept_weights an_kept_weights : Option Addr} {sl_kept_weights : Array (Option Value)} {oc_kept_weights kV_kept_weights dc_kept_weights pm_kept_weights cd_kept_weights ct_kept_weights : Value}
    {f_is_prime : Addr} {od_is_prime an_is_prime : Option Addr} {sl_is_prime : Array (Option Value)} {oc_is_prime kV_is_prime dc_is_prime pm_is_prime cd_is_prime ct_is_prime : Value}
    {f_require_kind : Addr} {od_require_kind an_require_kind : Option Addr} {sl_require_kind : Array (Option Value)} {oc_require_kind kV_require_kind dc_require_kind pm_require_kind cd_require_kind ct_require_kind : Value}
    {f_are_small : Addr} {od_are_small an_are_small : Option Addr} {sl_are_small : Array (Option Value)} {oc_are_small kV_are_small dc_are_small pm_are_small cd_are_small ct_are_small : Value}
    {f_is_letters : Addr} {od_is_letters an_is_letters : Option Addr} {sl_is_letters : Array (Option Value)} {oc_is_letters kV_is_letters dc_is_letters pm_is_letters cd_is_letters ct_is_letters : Value}
    {f_require_letters : Addr} {od_require_letters an_require_letters : Option Addr} {sl_require_letters : Array (Option Value)} {oc_require_letters kV_require_letters dc_require_letters pm_require_letters cd_require_letters ct_require_letters : Value}
    {f_Sum___init__ D_Sum___init__ : Addr} {od_Sum___init__ an_Sum___init__ : Option Addr} {sl_Sum___init__ : Array (Option Value)} {oc_Sum___init__ dc_Sum___init__ pm_Sum___init__ cd_Sum___init__ ct_Sum___init__ : Value}
    {f_Sum_weights : Addr} {od_Sum_weights an_Sum_weights : Option Addr} {sl_Sum_weights : Array (Option Value)} {oc_Sum_weights kV_Sum_weights dc_Sum_weights pm_Sum_weights cd_Sum_weights ct_Sum_weights : Value}
    {p_Sum_weights : Addr} {rs_Sum_weights : List Value}
    {f__law_cup : Addr} {od__law_cup an__law_cup : Option Addr} {sl__law_cup : Array (Option Value)} {oc__law_cup kV__law_cup dc__law_cup pm__law_cup cd__law_cup ct__law_cup : Value}
    {f__law_met : Addr} {od__law_met an__law_met : Option Addr} {sl__law_met : Array (Option Value)} {oc__law_met kV__law_met dc__law_met pm__law_met cd__law_met ct__law_met : Value}
    {f__law_bit : Addr} {od__law_bit an__law_bit : Option Addr} {sl__law_bit : Array (Option Value)} {oc__law_bit kV__law_bit dc__law_bit pm__law_bit cd__law_bit ct__law_bit : Value}
    {f__law_pick : Addr} {od__law_pick an__law_pick : Option Addr} {sl__law_pick : Array (Option Value)} {oc__law_pick kV__law_pick dc__law_pick pm__law_pick cd__law_pick ct__law_pick : Value}
    {f_is_integer_within : Addr} {od_is_integer_within an_is_integer_within : Option Addr} {sl_is_integer_within : Array (Option Value)} {oc_is_integer_within kV_is_integer_within dc_is_integer_within pm_is_integer_within cd_is_integer_within ct_is_integer_within : Value}
    {f_less : Addr} {od_less an_less : Option Addr} {sl_less : Array (Option Value)} {oc_less kV_less dc_less pm_less cd_less ct_less : Value}
    {f_first_row : Addr} {od_first_row an_first_row : Option Addr} {sl_first_row : Array (Option Value)} {oc_first_row kV_first_row dc_first_row pm_first_row cd_first_row ct_first_row : Value}
    {f_put : Addr} {od_put an_put : Option Addr} {sl_put : Array (Option Value)} {oc_put kV_put dc_put pm_put cd_put ct_put : Value}
    {f_with_letter : Addr} {od_with_letter an_with_letter : Option Addr} {sl_with_letter : Array (Option Value)} {oc_with_letter kV_with_letter dc_with_letter pm_with_letter cd_with_letter ct_with_letter : Value}
    {f_next_row : Addr} {od_next_row an_next_row : Option Addr} {sl_next_row : Array (Option Value)} {oc_next_row kV_next_row dc_next_row pm_next_row cd_next_row ct_next_row : Value}
    {f_overlays_of : Addr} {od_overlays_of an_overlays_of : Option Addr} {sl_overlays_of : Array (Option Value)} {oc_overlays_of kV_overlays_of dc_overlays_of pm_overlays_of cd_overlays_of ct_overlays_of : Value}
    {f_with_overlays : Addr} {od_with_overlays an_with_overlays : Option Addr} {sl_with_overlays : Array (Option Value)} {oc_with_overlays kV_with_overlays dc_with_overlays pm_with_overlays cd_with_overlays ct_with_overlays : Value}
    {f_product_of : Addr} {od_product_of an_product_of : Option Addr} {sl_product_of : Array (Option Value)} {oc_product_of kV_product_of dc_product_of pm_product_of cd_product_of ct_product_of : Value}
    {f_require_degree : Addr} {od_require_degree an_require_degree : Option Addr} {sl_require_degree : Array (Option Value)} {oc_require_degree kV_require_degree dc_require_degree pm_require_degree cd_require_degree ct_require_degree : Value}
    {f_require_sum : Addr} {od_require_sum an_require_sum : Option Addr} {sl_require_sum : Array (Option Value)} {oc_require_sum kV_require_sum dc_require_sum pm_require_sum cd_require_sum ct_require_sum : Value}
    {f_sum_with : Addr} {od_sum_with an_sum_with : Option Addr} {sl_sum_with : Array (Option Value)} {oc_sum_with kV_sum_with dc_sum_with pm_sum_with cd_sum_with ct_sum_with : Value}
    {f_binomial_of : Addr} {od_binomial_of an_binomial_of : Option Addr} {sl_binomial_of : Array (Option Value)} {oc_binomial_of kV_binomial_of dc_binomial_of pm_binomial_of cd_binomial_of ct_binomial_of : Value}
    {f_is_text_within : Addr} {od_is_text_within an_is_text_within : Option Addr} {sl_is_text_within : Array (Option Value)} {oc_is_text_within kV_is_text_within dc_is_text_within pm_is_text_within cd_is_text_within ct_is_text_within : Value}
    {f_are_images : Addr} {od_are_images an_are_images : Option Addr} {sl_are_images : Array (Option Value)} {oc_are_images kV_are_images dc_are_images pm_are_images cd_are_images ct_are_images : Value}
    {f_chosen : Addr} {od_chosen an_chosen : Option Addr} {sl_chosen : Array (Option Value)} {oc_chosen kV_chosen dc_chosen pm_chosen cd_chosen ct_chosen : Value}
    {f_tails_of : Addr} {od_tails_of an_tails_of : Option Addr} {sl_tails_of : Array (Option Value)} {oc_tails_of kV_tails_of dc_tails_of pm_tails_of cd_tails_of ct_tails_of : Value}
    {f_counts_of : Addr} {od_counts_of an_counts_of : Option Addr} {sl_counts_of : Array (Option Value)} {oc_counts_of kV_counts_of dc_counts_of pm_counts_of cd_counts_of ct_counts_of : Value}
    {f_led_parts : Addr} {od_led_parts an_led_parts : Option Addr} {sl_led_parts : Array (Option Value)} {oc_led_parts kV_led_parts dc_led_parts pm_led_parts cd_led_parts ct_led_parts : Value}
    {f_led : Addr} {od_led an_led : Option Addr} {sl_led : Array (Option Value)} {oc_led kV_led dc_led pm_led cd_led ct_led : Value}
    {f_require_pattern : Addr} {od_require_pattern an_require_pattern : Option Addr} {sl_require_pattern : Array (Option Value)} {oc_require_pattern kV_require_pattern dc_require_pattern pm_require_pattern cd_require_pattern ct_require_pattern : Value}
    {f_overlays : Addr} {od_overlays an_overlays : Option Addr} {sl_overlays : Array (Option Value)} {oc_overlays kV_overlays dc_overlays pm_overlays cd_overlays ct_overlays : Value}
    {f_renamed : Addr} {od_renamed an_renamed : Option Addr} {sl_renamed : Array (Option Value)} {oc_renamed kV_renamed dc_renamed pm_renamed cd_renamed ct_renamed : Value}
    {f_turned_round : Addr} {od_turned_round an_turned_round : Option Addr} {sl_turned_round : Array (Option Value)} {oc_turned_round kV_turned_round dc_turned_round pm_turned_round cd_turned_round ct_turned_round : Value}
    {f__law_right cd__law_right P__law_right : Addr} {od__law_right an__law_right cdd__law_right : Option Addr} {sl__law_right ccs__law_right : Array (Option Value)} {oc__law_right kV__law_right dc__law_right pm__law_right ct__law_right ccl__law_right : Value} {vs__law_right : Array Value}
    {f_law cd_law P_law : Addr} {od_law an_law cdd_law : Option Addr} {sl_law ccs_law : Array (Option Value)} {oc_law kV_law dc_law pm_law ct_law ccl_law : Value} {vs_law : Array Value}
    {t_GREATEST : Tok}
    {t_MAX_DEGREE : Tok}
    {t_MAX_IMAGE : Tok}
    {t_MAX_OVERLAY : Tok}
    {t_MAX_PATTERN : Tok}
    {t_MAX_SIZE : Tok}
    {t_MAX_TEXT : Tok}
    {t_MAX_WEIGHTS : Tok}
    {t_MOST_LETTERS : Tok}
    {t0_PRIMES t1_PRIMES t2_PRIMES t3_PRIMES : Tok} {T_PRIMES : Addr} {dd_PRIMES : Option Addr} {nn_PRIMES : Nat} {sl_PRIMES : Array (Option Value)}
    {E_InvalidLetters : Addr}
    {E_InvalidNumber : Addr}
    {E_InvalidOperation : Addr}
    {E_InvalidPattern : Addr}
    {E_InvalidSum : Addr}
    {E_TooMany : Addr}
    {fI_InvalidNumber cda_InvalidNumber cc_InvalidNumber : Addr} {qual_InvalidNumber file_InvalidNumber : Str} {kV_InvalidNumber doc_InvalidNumber pm_InvalidNumber oc_InvalidNumber ct_InvalidNumber ccl_InvalidNumber cl_InvalidNumber : Value} {an_InvalidNumber od_InvalidNumber cdd_InvalidNumber cld_InvalidNumber : Option Addr} {osl_InvalidNumber ccs_InvalidNumber csl_InvalidNumber : Array (Option Value)} {vs_InvalidNumber : Array Value} {tf_InvalidNumber : Tok} {cdC_InvalidNumber : ClassData}
    {fI_TooMany cda_TooMany cc_TooMany : Addr} {qual_TooMany file_TooMany : Str} {kV_TooMany doc_TooMany pm_TooMany oc_TooMany ct_TooMany ccl_TooMany cl_TooMany : Value} {an_TooMany od_TooMany cdd_TooMany cld_TooMany : Option Addr} {osl_TooMany ccs_TooMany csl_TooMany : Array (Option Value)} {vs_TooMany : Array Value} {tf_TooMany : Tok} {cdC_TooMany : ClassData}
    (gt : PySem.W.specialIn K (.builtin "object.__class__") "__get__" = some (some (.builtin "getset_descriptor.__get__")))
    (tk : PySem.W.takesIn K (.builtin "object.__class__") = some true)
    (cn_Sum : PySem.W.nsIn K mainGlobals "Sum" = some (some (.ref C_Sum)))
    (pg_Sum : PySem.W.plainGet K C_Sum Str.empty = true)
    (hd_Sum : PySem.W.hasDictIn K C_Sum = true)
    (po_Sum : PySem.W.plainOver K C_Sum = true)
    (sa_Sum : PySem.W.findIn K (.ref C_Sum) "__setattr__" = some (some (.builtin "object.__setattr__")))
    (ca_Sum : PySem.W.findIn K (.ref C_Sum) "__class__" = some (some (.builtin "object.__class__")))
    (mo_Sum : PySem.W.mroIn K C_Sum (.type "object") = some true)
    (kf0_Sum : PySem.W.subIn K (.type "NoneType") (.ref C_Sum) = some false)
    (kf1_Sum : PySem.W.subIn K (.type "bool") (.ref C_Sum) = some false)
    (kf2_Sum : PySem.W.subIn K (.type "int") (.ref C_Sum) = some false)
    (kf3_Sum : PySem.W.subIn K (.type "str") (.ref C_Sum) = some false)
    (kf4_Sum : PySem.W.subIn K (.type "list") (.ref C_Sum) = some false)
    (kf5_Sum : PySem.W.subIn K (.type "tuple") (.ref C_Sum) = some false)
    (kf6_Sum : PySem.W.subIn K (.type "dict") (.ref C_Sum) = some false)
    (ty_Sum : PySem.W.typeIn K (.ref C_Sum) = some (.type "type"))
    (mk_Sum : PySem.W.makesIn K C_Sum = true)
    (kc_Sum : PySem.W.keepIn K (.ref C_Sum) = true)
    (x_Sum_own_degree : PySem.W.findIn K (.ref C_Sum) "own_degree" = some none)
    (x_Sum_own_letters : PySem.W.findIn K (.ref C_Sum) "own_letters" = some none)
    (x_Sum_own_prime : PySem.W.findIn K (.ref C_Sum) "own_prime" = some none)
    (x_Sum_own_weights : PySem.W.findIn K (.ref C_Sum) "own_weights" = some none)
    (a_is_integer : PySem.W.nsIn K mainGlobals "is_integer" = some (some (.ref f_is_integer)))
    (l_is_integer : K.lookup f_is_integer = some ⟨oc_is_integer, od_is_integer, .func (PySem.W.fnOf "is_integer" "is_integer" (defArgs s_is_integer) (defBody s_is_integer) (defScope s_is_integer) .none kV_is_integer dc_is_integer pm_is_integer an_is_integer cd_is_integer ct_is_integer), sl_is_integer⟩)
    (c_is_integer : PySem.W.codeIn K cd_is_integer "is_integer" = true)
    (k_is_integer : PySem.W.keepIn K (.ref f_is_integer) = true)
    (a_is_pattern_within : PySem.W.nsIn K mainGlobals "is_pattern_within" = some (some (.ref f_is_pattern_within)))
    (l_is_pattern_within : K.lookup f_is_pattern_within = some ⟨oc_is_pattern_within, od_is_pattern_within, .func (PySem.W.fnOf "is_pattern_within" "is_pattern_within" (defArgs s_is_pattern_within) (defBody s_is_pattern_within) (defScope s_is_pattern_within) .none kV_is_pattern_within dc_is_pattern_within pm_is_pattern_within an_is_pattern_within cd_is_pattern_within ct_is_pattern_within), sl_is_pattern_within⟩)
    (c_is_pattern_within : PySem.W.codeIn K cd_is_pattern_within "is_pattern_within" = true)
    (k_is_pattern_within : PySem.W.keepIn K (.ref f_is_pattern_within) = true)
    (a_are_weights : PySem.W.nsIn K mainGlobals "are_weights" = some (some (.ref f_are_weights)))
    (l_are_weights : K.lookup f_are_weights = some ⟨oc_are_weights, od_are_weights, .func (PySem.W.fnOf "are_weights" "are_weights" (defArgs s_are_weights) (defBody s_are_weights) (defScope s_are_weights) .none kV_are_weights dc_are_weights pm_are_weights an_are_weights cd_are_weights ct_are_weights), sl_are_weights⟩)
    (c_are_weights : PySem.W.codeIn K cd_are_weights "are_weights" = true)
    (k_are_weights : PySem.W.keepIn K (.ref f_are_weights) = true)
    (a_ordered : PySem.W.nsIn K mainGlobals "ordered" = some (some (.ref f_ordered)))
    (l_ordered : K.lookup f_ordered = some ⟨oc_ordered, od_ordered, .func (PySem.W.fnOf "ordered" "ordered" (defArgs s_ordered) (defBody s_ordered) (defScope s_ordered) .none kV_ordered dc_ordered pm_ordered an_ordered cd_ordered ct_ordered), sl_ordered⟩)
    (c_ordered : PySem.W.codeIn K cd_ordered "ordered" = true)
    (k_ordered : PySem.W.keepIn K (.ref f_ordered) = true)
    (a_rest : PySem.W.nsIn K mainGlobals "rest" = some (some (.ref f_rest)))
    (l_rest : K.lookup f_rest = some ⟨oc_rest, od_rest, .func (PySem.W.fnOf "rest" "rest" (defArgs s_rest) (defBody s_rest) (defScope s_rest) .none kV_rest dc_rest pm_rest an_rest cd_rest ct_rest), sl_rest⟩)
    (c_rest : PySem.W.codeIn K cd_rest "rest" = true)
    (k_rest : PySem.W.keepIn K (.ref f_rest) = true)
    (a_kept_weights : PySem.W.nsIn K mainGlobals "kept_weights" = some (some (.ref f_kept_weights)))
    (l_kept_weights : K.lookup f_kept_weights = some ⟨oc_kept_weights, od_kept_weights, .func (PySem.W.fnOf "kept_weights" "kept_weights" (defArgs s_kept_weights) (defBody s_kept_weights) (defScope s_kept_weights) .none kV_kept_weights dc_kept_weights pm_kept_weights an_kept_weights cd_kept_weights ct_kept_weights), sl_kept_weights⟩)
    (c_kept_weights : PySem.W.codeIn K cd_kept_weights "kept_weights" = true)
    (k_kept_weights : PySem.W.keepIn K (.ref f_kept_weights) = true)
    (a_is_prime : PySem.W.nsIn K mainGlobals "is_prime" = some (some (.ref f_is_prime)))
    (l_is_prime : K.lookup f_is_prime = some ⟨oc_is_prime, od_is_prime, .func (PySem.W.fnOf "is_prime" "is_prime" (defArgs s_is_prime) (defBody s_is_prime) (defScope s_is_prime) .none kV_is_prime dc_is_prime pm_is_prime an_is_prime cd_is_prime ct_is_prime), sl_is_prime⟩)
    (c_is_prime : PySem.W.codeIn K cd_is_prime "is_prime" = true)
    (k_is_prime : PySem.W.keepIn K (.ref f_is_prime) = true)
    (a_require_kind : PySem.W.nsIn K mainGlobals "require_kind" = some (some (.ref f_require_kind)))
    (l_require_kind : K.lookup f_require_kind = some ⟨oc_require_kind, od_require_kind, .func (PySem.W.fnOf "require_kind" "require_kind" (defArgs s_require_kind) (defBody s_require_kind) (defScope s_require_kind) .none kV_require_kind dc_require_kind pm_require_kind an_require_kind cd_require_kind ct_require_kind), sl_require_kind⟩)
    (c_require_kind : PySem.W.codeIn K cd_require_kind "require_kind" = true)
    (k_require_kind : PySem.W.keepIn K (.ref f_require_kind) = true)
    (a_are_small : PySem.W.nsIn K mainGlobals "are_small" = some (some (.ref f_are_small)))
    (l_are_small : K.lookup f_are_small = some ⟨oc_are_small, od_are_small, .func (PySem.W.fnOf "are_small" "are_small" (defArgs s_are_small) (defBody s_are_small) (defScope s_are_small) .none kV_are_small dc_are_small pm_are_small an_are_small cd_are_small ct_are_small), sl_are_small⟩)
    (c_are_small : PySem.W.codeIn K cd_are_small "are_small" = true)
    (k_are_small : PySem.W.keepIn K (.ref f_are_small) = true)
    (a_is_letters : PySem.W.nsIn K mainGlobals "is_letters" = some (some (.ref f_is_letters)))
    (l_is_letters : K.lookup f_is_letters = some ⟨oc_is_letters, od_is_letters, .func (PySem.W.fnOf "is_letters" "is_letters" (defArgs s_is_letters) (defBody s_is_letters) (defScope s_is_letters) .none kV_is_letters dc_is_letters pm_is_letters an_is_letters cd_is_letters ct_is_letters), sl_is_letters⟩)
    (c_is_letters : PySem.W.codeIn K cd_is_letters "is_letters" = true)
    (k_is_letters : PySem.W.keepIn K (.ref f_is_letters) = true)
    (a_require_letters : PySem.W.nsIn K mainGlobals "require_letters" = some (some (.ref f_require_letters)))
    (l_require_letters : K.lookup f_require_letters = some ⟨oc_require_letters, od_require_letters, .func (PySem.W.fnOf "require_letters" "require_letters" (defArgs s_require_letters) (defBody s_require_letters) (defScope s_require_letters) .none kV_require_letters dc_require_letters pm_require_letters an_require_letters cd_require_letters ct_require_letters), sl_require_letters⟩)
    (c_require_letters : PySem.W.codeIn K cd_require_letters "require_letters" = true)
    (k_require_letters : PySem.W.keepIn K (.ref f_require_letters) = true)
    (a_Sum___init__ : PySem.W.findIn K (.ref C_Sum) "__init__" = some (some (.ref f_Sum___init__)))
    (i_Sum___init__ : PySem.W.isFn K (.ref f_Sum___init__) = true)
    (l_Sum___init__ : K.lookup f_Sum___init__ = some ⟨oc_Sum___init__, od_Sum___init__, .func (PySem.W.fnOf "__init__" "Sum.__init__" (defArgs s_Sum___init__) (defBody s_Sum___init__) (defScope s_Sum___init__) .none (.ref D_Sum___init__) dc_Sum___init__ pm_Sum___init__ an_Sum___init__ cd_Sum___init__ ct_Sum___init__), sl_Sum___init__⟩)
    (c_Sum___init__ : PySem.W.codeIn K cd_Sum___init__ "Sum.__init__" = true)
    (k_Sum___init__ : PySem.W.keepIn K (.ref f_Sum___init__) = true)
    (d0_Sum___init__ : PySem.W.nsIn K D_Sum___init__ "prime" = some (some (.none)))
    (d1_Sum___init__ : PySem.W.nsIn K D_Sum___init__ "checked" = some (some (.bool true)))
    (a_Sum_weights : PySem.W.findIn K (.ref C_Sum) "weights" = some (some (.ref p_Sum_weights)))
    (g_Sum_weights : PySem.W.specialIn K (.ref p_Sum_weights) "__get__" = some (some (.builtin "property.__get__")))
    (t_Sum_weights : PySem.W.takesIn K (.ref p_Sum_weights) = some true)
    (r_Sum_weights : PySem.W.recIn K p_Sum_weights "property" = some (.ref f_Sum_weights :: rs_Sum_weights))
    (l_Sum_weights : K.lookup f_Sum_weights = some ⟨oc_Sum_weights, od_Sum_weights, .func (PySem.W.fnOf "weights" "Sum.weights" (defArgs s_Sum_weights) (defBody s_Sum_weights) (defScope s_Sum_weights) .none kV_Sum_weights dc_Sum_weights pm_Sum_weights an_Sum_weights cd_Sum_weights ct_Sum_weights), sl_Sum_weights⟩)
    (c_Sum_weights : PySem.W.codeIn K cd_Sum_weights "Sum.weights" = true)
    (k_Sum_weights : PySem.W.keepIn K (.ref f_Sum_weights) = true)
    (a__law_cup : PySem.W.nsIn K mainGlobals "_law_cup" = some (some (.ref f__law_cup)))
    (l__law_cup : K.lookup f__law_cup = some ⟨oc__law_cup, od__law_cup, .func (PySem.W.fnOf "_law_cup" "_law_cup" (defArgs s__law_cup) (defBody s__law_cup) (defScope s__law_cup) .none kV__law_cup dc__law_cup pm__law_cup an__law_cup cd__law_cup ct__law_cup), sl__law_cup⟩)
    (c__law_cup : PySem.W.codeIn K cd__law_cup "_law_cup" = true)
    (k__law_cup : PySem.W.keepIn K (.ref f__law_cup) = true)
    (a__law_met : PySem.W.nsIn K mainGlobals "_law_met" = some (some (.ref f__law_met)))
    (l__law_met : K.lookup f__law_met = some ⟨oc__law_met, od__law_met, .func (PySem.W.fnOf "_law_met" "_law_met" (defArgs s__law_met) (defBody s__law_met) (defScope s__law_met) .none kV__law_met dc__law_met pm__law_met an__law_met cd__law_met ct__law_met), sl__law_met⟩)
    (c__law_met : PySem.W.codeIn K cd__law_met "_law_met" = true)
    (k__law_met : PySem.W.keepIn K (.ref f__law_met) = true)
    (a__law_bit : PySem.W.nsIn K mainGlobals "_law_bit" = some (some (.ref f__law_bit)))
    (l__law_bit : K.lookup f__law_bit = some ⟨oc__law_bit, od__law_bit, .func (PySem.W.fnOf "_law_bit" "_law_bit" (defArgs s__law_bit) (defBody s__law_bit) (defScope s__law_bit) .none kV__law_bit dc__law_bit pm__law_bit an__law_bit cd__law_bit ct__law_bit), sl__law_bit⟩)
    (c__law_bit : PySem.W.codeIn K cd__law_bit "_law_bit" = true)
    (k__law_bit : PySem.W.keepIn K (.ref f__law_bit) = true)
    (a__law_pick : PySem.W.nsIn K mainGlobals "_law_pick" = some (some (.ref f__law_pick)))
    (l__law_pick : K.lookup f__law_pick = some ⟨oc__law_pick, od__law_pick, .func (PySem.W.fnOf "_law_pick" "_law_pick" (defArgs s__law_pick) (defBody s__law_pick) (defScope s__law_pick) .none kV__law_pick dc__law_pick pm__law_pick an__law_pick cd__law_pick ct__law_pick), sl__law_pick⟩)
    (c__law_pick : PySem.W.codeIn K cd__law_pick "_law_pick" = true)
    (k__law_pick : PySem.W.keepIn K (.ref f__law_pick) = true)
    (a_is_integer_within : PySem.W.nsIn K mainGlobals "is_integer_within" = some (some (.ref f_is_integer_within)))
    (l_is_integer_within : K.lookup f_is_integer_within = some ⟨oc_is_integer_within, od_is_integer_within, .func (PySem.W.fnOf "is_integer_within" "is_integer_within" (defArgs s_is_integer_within) (defBody s_is_integer_within) (defScope s_is_integer_within) .none kV_is_integer_within dc_is_integer_within pm_is_integer_within an_is_integer_within cd_is_integer_within ct_is_integer_within), sl_is_integer_within⟩)
    (c_is_integer_within : PySem.W.codeIn K cd_is_integer_within "is_integer_within" = true)
    (k_is_integer_within : PySem.W.keepIn K (.ref f_is_integer_within) = true)
    (a_less : PySem.W.nsIn K mainGlobals "less" = some (some (.ref f_less)))
    (l_less : K.lookup f_less = some ⟨oc_less, od_less, .func (PySem.W.fnOf "less" "less" (defArgs s_less) (defBody s_less) (defScope s_less) .none kV_less dc_less pm_less an_less cd_less ct_less), sl_less⟩)
    (c_less : PySem.W.codeIn K cd_less "less" = true)
    (k_less : PySem.W.keepIn K (.ref f_less) = true)
    (a_first_row : PySem.W.nsIn K mainGlobals "first_row" = some (some (.ref f_first_row)))
    (l_first_row : K.lookup f_first_row = some ⟨oc_first_row, od_first_row, .func (PySem.W.fnOf "first_row" "first_row" (defArgs s_first_row) (defBody s_first_row) (defScope s_first_row) .none kV_first_row dc_first_row pm_first_row an_first_row cd_first_row ct_first_row), sl_first_row⟩)
    (c_first_row : PySem.W.codeIn K cd_first_row "first_row" = true)
    (k_first_row : PySem.W.keepIn K (.ref f_first_row) = true)
    (a_put : PySem.W.nsIn K mainGlobals "put" = some (some (.ref f_put)))
    (l_put : K.lookup f_put = some ⟨oc_put, od_put, .func (PySem.W.fnOf "put" "put" (defArgs s_put) (defBody s_put) (defScope s_put) .none kV_put dc_put pm_put an_put cd_put ct_put), sl_put⟩)
    (c_put : PySem.W.codeIn K cd_put "put" = true)
    (k_put : PySem.W.keepIn K (.ref f_put) = true)
    (a_with_letter : PySem.W.nsIn K mainGlobals "with_letter" = some (some (.ref f_with_letter)))
    (l_with_letter : K.lookup f_with_letter = some ⟨oc_with_letter, od_with_letter, .func (PySem.W.fnOf "with_letter" "with_letter" (defArgs s_with_letter) (defBody s_with_letter) (defScope s_with_letter) .none kV_with_letter dc_with_letter pm_with_letter an_with_letter cd_with_letter ct_with_letter), sl_with_letter⟩)
    (c_with_letter : PySem.W.codeIn K cd_with_letter "with_letter" = true)
    (k_with_letter : PySem.W.keepIn K (.ref f_with_letter) = true)
    (a_next_row : PySem.W.nsIn K mainGlobals "next_row" = some (some (.ref f_next_row)))
    (l_next_row : K.lookup f_next_row = some ⟨oc_next_row, od_next_row, .func (PySem.W.fnOf "next_row" "next_row" (defArgs s_next_row) (defBody s_next_row) (defScope s_next_row) .none kV_next_row dc_next_row pm_next_row an_next_row cd_next_row ct_next_row), sl_next_row⟩)
    (c_next_row : PySem.W.codeIn K cd_next_row "next_row" = true)
    (k_next_row : PySem.W.keepIn K (.ref f_next_row) = true)
    (a_overlays_of : PySem.W.nsIn K mainGlobals "overlays_of" = some (some (.ref f_overlays_of)))
    (l_overlays_of : K.lookup f_overlays_of = some ⟨oc_overlays_of, od_overlays_of, .func (PySem.W.fnOf "overlays_of" "overlays_of" (defArgs s_overlays_of) (defBody s_overlays_of) (defScope s_overlays_of) .none kV_overlays_of dc_overlays_of pm_overlays_of an_overlays_of cd_overlays_of ct_overlays_of), sl_overlays_of⟩)
    (c_overlays_of : PySem.W.codeIn K cd_overlays_of "overlays_of" = true)
    (k_overlays_of : PySem.W.keepIn K (.ref f_overlays_of) = true)
    (a_with_overlays : PySem.W.nsIn K mainGlobals "with_overlays" = some (some (.ref f_with_overlays)))
    (l_with_overlays : K.lookup f_with_overlays = some ⟨oc_with_overlays, od_with_overlays, .func (PySem.W.fnOf "with_overlays" "with_overlays" (defArgs s_with_overlays) (defBody s_with_overlays) (defScope s_with_overlays) .none kV_with_overlays dc_with_overlays pm_with_overlays an_with_overlays cd_with_overlays ct_with_overlays), sl_with_overlays⟩)
    (c_with_overlays : PySem.W.codeIn K cd_with_overlays "with_overlays" = true)
    (k_with_overlays : PySem.W.keepIn K (.ref f_with_overlays) = true)
    (a_product_of : PySem.W.nsIn K mainGlobals "product_of" = some (some (.ref f_product_of)))
    (l_product_of : K.lookup f_product_of = some ⟨oc_product_of, od_product_of, .func (PySem.W.fnOf "product_of" "product_of" (defArgs s_product_of) (defBody s_product_of) (defScope s_product_of) .none kV_product_of dc_product_of pm_product_of an_product_of cd_product_of ct_product_of), sl_product_of⟩)
    (c_product_of : PySem.W.codeIn K cd_product_of "product_of" = true)
    (k_product_of : PySem.W.keepIn K (.ref f_product_of) = true)
    (a_require_degree : PySem.W.nsIn K mainGlobals "require_degree" = some (some (.ref f_require_degree)))
    (l_require_degree : K.lookup f_require_degree = some ⟨oc_require_degree, od_require_degree, .func (PySem.W.fnOf "require_degree" "require_degree" (defArgs s_require_degree) (defBody s_require_degree) (defScope s_require_degree) .none kV_require_degree dc_require_degree pm_require_degree an_require_degree cd_require_degree ct_require_degree), sl_require_degree⟩)
    (c_require_degree : PySem.W.codeIn K cd_require_degree "require_degree" = true)
    (k_require_degree : PySem.W.keepIn K (.ref f_require_degree) = true)
    (a_require_sum : PySem.W.nsIn K mainGlobals "require_sum" = some (some (.ref f_require_sum)))
    (l_require_sum : K.lookup f_require_sum = some ⟨oc_require_sum, od_require_sum, .func (PySem.W.fnOf "require_sum" "require_sum" (defArgs s_require_sum) (defBody s_require_sum) (defScope s_require_sum) .none kV_require_sum dc_require_sum pm_require_sum an_require_sum cd_require_sum ct_require_sum), sl_require_sum⟩)
    (c_require_sum : PySem.W.codeIn K cd_require_sum "require_sum" = true)
    (k_require_sum : PySem.W.keepIn K (.ref f_require_sum) = true)
    (a_sum_with : PySem.W.nsIn K mainGlobals "sum_with" = some (some (.ref f_sum_with)))
    (l_sum_with : K.lookup f_sum_with = some ⟨oc_sum_with, od_sum_with, .func (PySem.W.fnOf "sum_with" "sum_with" (defArgs s_sum_with) (defBody s_sum_with) (defScope s_sum_with) .none kV_sum_with dc_sum_with pm_sum_with an_sum_with cd_sum_with ct_sum_with), sl_sum_with⟩)
    (c_sum_with : PySem.W.codeIn K cd_sum_with "sum_with" = true)
    (k_sum_with : PySem.W.keepIn K (.ref f_sum_with) = true)
    (a_binomial_of : PySem.W.nsIn K mainGlobals "binomial_of" = some (some (.ref f_binomial_of)))
    (l_binomial_of : K.lookup f_binomial_of = some ⟨oc_binomial_of, od_binomial_of, .func (PySem.W.fnOf "binomial_of" "binomial_of" (defArgs s_binomial_of) (defBody s_binomial_of) (defScope s_binomial_of) .none kV_binomial_of dc_binomial_of pm_binomial_of an_binomial_of cd_binomial_of ct_binomial_of), sl_binomial_of⟩)
    (c_binomial_of : PySem.W.codeIn K cd_binomial_of "binomial_of" = true)
    (k_binomial_of : PySem.W.keepIn K (.ref f_binomial_of) = true)
    (a_is_text_within : PySem.W.nsIn K mainGlobals "is_text_within" = some (some (.ref f_is_text_within)))
    (l_is_text_within : K.lookup f_is_text_within = some ⟨oc_is_text_within, od_is_text_within, .func (PySem.W.fnOf "is_text_within" "is_text_within" (defArgs s_is_text_within) (defBody s_is_text_within) (defScope s_is_text_within) .none kV_is_text_within dc_is_text_within pm_is_text_within an_is_text_within cd_is_text_within ct_is_text_within), sl_is_text_within⟩)
    (c_is_text_within : PySem.W.codeIn K cd_is_text_within "is_text_within" = true)
    (k_is_text_within : PySem.W.keepIn K (.ref f_is_text_within) = true)
    (a_are_images : PySem.W.nsIn K mainGlobals "are_images" = some (some (.ref f_are_images)))
    (l_are_images : K.lookup f_are_images = some ⟨oc_are_images, od_are_images, .func (PySem.W.fnOf "are_images" "are_images" (defArgs s_are_images) (defBody s_are_images) (defScope s_are_images) .none kV_are_images dc_are_images pm_are_images an_are_images cd_are_images ct_are_images), sl_are_images⟩)
    (c_are_images : PySem.W.codeIn K cd_are_images "are_images" = true)
    (k_are_images : PySem.W.keepIn K (.ref f_are_images) = true)
    (a_chosen : PySem.W.nsIn K mainGlobals "chosen" = some (some (.ref f_chosen)))
    (l_chosen : K.lookup f_chosen = some ⟨oc_chosen, od_chosen, .func (PySem.W.fnOf "chosen" "chosen" (defArgs s_chosen) (defBody s_chosen) (defScope s_chosen) .none kV_chosen dc_chosen pm_chosen an_chosen cd_chosen ct_chosen), sl_chosen⟩)
    (c_chosen : PySem.W.codeIn K cd_chosen "chosen" = true)
    (k_chosen : PySem.W.keepIn K (.ref f_chosen) = true)
    (a_tails_of : PySem.W.nsIn K mainGlobals "tails_of" = some (some (.ref f_tails_of)))
    (l_tails_of : K.lookup f_tails_of = some ⟨oc_tails_of, od_tails_of, .func (PySem.W.fnOf "tails_of" "tails_of" (defArgs s_tails_of) (defBody s_tails_of) (defScope s_tails_of) .none kV_tails_of dc_tails_of pm_tails_of an_tails_of cd_tails_of ct_tails_of), sl_tails_of⟩)
    (c_tails_of : PySem.W.codeIn K cd_tails_of "tails_of" = true)
    (k_tails_of : PySem.W.keepIn K (.ref f_tails_of) = true)
    (a_counts_of : PySem.W.nsIn K mainGlobals "counts_of" = some (some (.ref f_counts_of)))
    (l_counts_of : K.lookup f_counts_of = some ⟨oc_counts_of, od_counts_of, .func (PySem.W.fnOf "counts_of" "counts_of" (defArgs s_counts_of) (defBody s_counts_of) (defScope s_counts_of) .none kV_counts_of dc_counts_of pm_counts_of an_counts_of cd_counts_of ct_counts_of), sl_counts_of⟩)
    (c_counts_of : PySem.W.codeIn K cd_counts_of "counts_of" = true)
    (k_counts_of : PySem.W.keepIn K (.ref f_counts_of) = true)
    (a_led_parts : PySem.W.nsIn K mainGlobals "led_parts" = some (some (.ref f_led_parts)))
    (l_led_parts : K.lookup f_led_parts = some ⟨oc_led_parts, od_led_parts, .func (PySem.W.fnOf "led_parts" "led_parts" (defArgs s_led_parts) (defBody s_led_parts) (defScope s_led_parts) .none kV_led_parts dc_led_parts pm_led_parts an_led_parts cd_led_parts ct_led_parts), sl_led_parts⟩)
    (c_led_parts : PySem.W.codeIn K cd_led_parts "led_parts" = true)
    (k_led_parts : PySem.W.keepIn K (.ref f_led_parts) = true)
    (a_led : PySem.W.nsIn K mainGlobals "led" = some (some (.ref f_led)))
    (l_led : K.lookup f_led = some ⟨oc_led, od_led, .func (PySem.W.fnOf "led" "led" (defArgs s_led) (defBody s_led) (defScope s_led) .none kV_led dc_led pm_led an_led cd_led ct_led), sl_led⟩)
    (c_led : PySem.W.codeIn K cd_led "led" = true)
    (k_led : PySem.W.keepIn K (.ref f_led) = true)
    (a_require_pattern : PySem.W.nsIn K mainGlobals "require_pattern" = some (some (.ref f_require_pattern)))
    (l_require_pattern : K.lookup f_require_pattern = some ⟨oc_require_pattern, od_require_pattern, .func (PySem.W.fnOf "require_pattern" "require_pattern" (defArgs s_require_pattern) (defBody s_require_pattern) (defScope s_require_pattern) .none kV_require_pattern dc_require_pattern pm_require_pattern an_require_pattern cd_require_pattern ct_require_pattern), sl_require_pattern⟩)
    (c_require_pattern : PySem.W.codeIn K cd_require_pattern "require_pattern" = true)
    (k_require_pattern : PySem.W.keepIn K (.ref f_require_pattern) = true)
    (a_overlays : PySem.W.nsIn K mainGlobals "overlays" = some (some (.ref f_overlays)))
    (l_overlays : K.lookup f_overlays = some ⟨oc_overlays, od_overlays, .func (PySem.W.fnOf "overlays" "overlays" (defArgs s_overlays) (defBody s_overlays) (defScope s_overlays) .none kV_overlays dc_overlays pm_overlays an_overlays cd_overlays ct_overlays), sl_overlays⟩)
    (c_overlays : PySem.W.codeIn K cd_overlays "overlays" = true)
    (k_overlays : PySem.W.keepIn K (.ref f_overlays) = true)
    (a_renamed : PySem.W.nsIn K mainGlobals "renamed" = some (some (.ref f_renamed)))
    (l_renamed : K.lookup f_renamed = some ⟨oc_renamed, od_renamed, .func (PySem.W.fnOf "renamed" "renamed" (defArgs s_renamed) (defBody s_renamed) (defScope s_renamed) .none kV_renamed dc_renamed pm_renamed an_renamed cd_renamed ct_renamed), sl_renamed⟩)
    (c_renamed : PySem.W.codeIn K cd_renamed "renamed" = true)
    (k_renamed : PySem.W.keepIn K (.ref f_renamed) = true)
    (a_turned_round : PySem.W.nsIn K mainGlobals "turned_round" = some (some (.ref f_turned_round)))
    (l_turned_round : K.lookup f_turned_round = some ⟨oc_turned_round, od_turned_round, .func (PySem.W.fnOf "turned_round" "turned_round" (defArgs s_turned_round) (defBody s_turned_round) (defScope s_turned_round) .none kV_turned_round dc_turned_round pm_turned_round an_turned_round cd_turned_round ct_turned_round), sl_turned_round⟩)
    (c_turned_round : PySem.W.codeIn K cd_turned_round "turned_round" = true)
    (k_turned_round : PySem.W.keepIn K (.ref f_turned_round) = true)
    (a__law_right : PySem.W.nsIn K mainGlobals "_law_right" = some (some (.ref f__law_right)))
    (l__law_right : K.lookup f__law_right = some ⟨oc__law_right, od__law_right, .func (PySem.W.fnOf "_law_right" "_law_right" (defArgs s__law_right) (defBody s__law_right) (defScope s__law_right) .none kV__law_right dc__law_right pm__law_right an__law_right (.ref cd__law_right) ct__law_right), sl__law_right⟩)
    (c__law_right : PySem.W.codeIn K (.ref cd__law_right) "_law_right" = true)
    (k__law_right : PySem.W.keepIn K (.ref f__law_right) = true)
    (tl__law_right : K.lookup cd__law_right = some ⟨ccl__law_right, cdd__law_right, .fields vs__law_right, ccs__law_right⟩)
    (tp__law_right : (vs__law_right[11]? : Option Value) = some (.ref P__law_right))
    (th__law_right : PySem.W.codeHdIn K cd__law_right P__law_right = true)
    (tn__law_right : K.lookup P__law_right = none)
    (a_law : PySem.W.nsIn K mainGlobals "law" = some (some (.ref f_law)))
    (l_law : K.lookup f_law = some ⟨oc_law, od_law, .func (PySem.W.fnOf "law" "law" (defArgs s_law) (defBody s_law) (defScope s_law) .none kV_law dc_law pm_law an_law (.ref cd_law) ct_law), sl_law⟩)
    (c_law : PySem.W.codeIn K (.ref cd_law) "law" = true)
    (k_law : PySem.W.keepIn K (.ref f_law) = true)
    (tl_law : K.lookup cd_law = some ⟨ccl_law, cdd_law, .fields vs_law, ccs_law⟩)
    (tp_law : (vs_law[11]? : Option Value) = some (.ref P_law))
    (th_law : PySem.W.codeHdIn K cd_law P_law = true)
    (tn_law : K.lookup P_law = none)
    (z_abs : PySem.W.nsIn K mainGlobals "abs" = some none)
    (z_all : PySem.W.nsIn K mainGlobals "all" = some none)
    (z_bool : PySem.W.nsIn K mainGlobals "bool" = some none)
    (z_dict : PySem.W.nsIn K mainGlobals "dict" = some none)
    (z_int : PySem.W.nsIn K mainGlobals "int" = some none)
    (z_isinstance : PySem.W.nsIn K mainGlobals "isinstance" = some none)
    (z_len : PySem.W.nsIn K mainGlobals "len" = some none)
    (z_list : PySem.W.nsIn K mainGlobals "list" = some none)
    (z_max : PySem.W.nsIn K mainGlobals "max" = some none)
    (z_min : PySem.W.nsIn K mainGlobals "min" = some none)
    (z_range : PySem.W.nsIn K mainGlobals "range" = some none)
    (z_repr : PySem.W.nsIn K mainGlobals "repr" = some none)
    (z_set : PySem.W.nsIn K mainGlobals "set" = some none)
    (z_sorted : PySem.W.nsIn K mainGlobals "sorted" = some none)
    (z_str : PySem.W.nsIn K mainGlobals "str" = some none)
    (z_sum : PySem.W.nsIn K mainGlobals "sum" = some none)
    (z_tuple : PySem.W.nsIn K mainGlobals "tuple" = some none)
    (z_zip : PySem.W.nsIn K mainGlobals "zip" = some none)
    (g_GREATEST : PySem.W.nsIn K mainGlobals "GREATEST" = some (some (.int (99999999999999999999999999999999999999999999999999999999999999999999999999999999999999999999999999999999999999999999999999999999999999999999999999999999999999999999999999999999999999999999999999999999) t_GREATEST)))
    (g_MAX_DEGREE : PySem.W.nsIn K mainGlobals "MAX_DEGREE" = some (some (.int (12) t_MAX_DEGREE)))
    (g_MAX_IMAGE : PySem.W.nsIn K mainGlobals "MAX_IMAGE" = some (some (.int (8) t_MAX_IMAGE)))
    (g_MAX_OVERLAY : PySem.W.nsIn K mainGlobals "MAX_OVERLAY" = some (some (.int (8) t_MAX_OVERLAY)))
    (g_MAX_PATTERN : PySem.W.nsIn K mainGlobals "MAX_PATTERN" = some (some (.int (400) t_MAX_PATTERN)))
    (g_MAX_SIZE : PySem.W.nsIn K mainGlobals "MAX_SIZE" = some (some (.int (4) t_MAX_SIZE)))
    (g_MAX_TEXT : PySem.W.nsIn K mainGlobals "MAX_TEXT" = some (some (.int (4000) t_MAX_TEXT)))
    (g_MAX_WEIGHTS : PySem.W.nsIn K mainGlobals "MAX_WEIGHTS" = some (some (.int (400) t_MAX_WEIGHTS)))
    (g_MOST_LETTERS : PySem.W.nsIn K mainGlobals "MOST_LETTERS" = some (some (.int (3) t_MOST_LETTERS)))
    (g_PRIMES : PySem.W.nsIn K mainGlobals "PRIMES" = some (some (.ref T_PRIMES)))
    (h_PRIMES : K.lookup T_PRIMES = some ⟨.type "tuple", dd_PRIMES, .seq #[.int (2) t0_PRIMES, .int (3) t1_PRIMES, .int (5) t2_PRIMES, .int (7) t3_PRIMES] nn_PRIMES, sl_PRIMES⟩)
    (xn_InvalidLetters : PySem.W.nsIn K mainGlobals "InvalidLetters" = some (some (.ref E_InvalidLetters)))
    (xn_InvalidNumber : PySem.W.nsIn K mainGlobals "InvalidNumber" = some (some (.ref E_InvalidNumber)))
    (xn_InvalidOperation : PySem.W.nsIn K mainGlobals "InvalidOperation" = some (some (.ref E_InvalidOperation)))
    (xn_InvalidPattern : PySem.W.nsIn K mainGlobals "InvalidPattern" = some (some (.ref E_InvalidPattern)))
    (xn_InvalidSum : PySem.W.nsIn K mainGlobals "InvalidSum" = some (some (.ref E_InvalidSum)))
    (xn_TooMany : PySem.W.nsIn K mainGlobals "TooMany" = some (some (.ref E_TooMany)))
    (xk_InvalidLetters : PySem.W.keepIn K (.ref E_InvalidLetters) = true)
    (xs_InvalidLetters : PySem.W.subIn K (.ref E_InvalidLetters) (.type "BaseException") = some true)
    (xt_InvalidLetters : PySem.W.typeIn K (.ref E_InvalidLetters) = some (.type "type"))
    (xk_InvalidNumber : PySem.W.keepIn K (.ref E_InvalidNumber) = true)
    (xs_InvalidNumber : PySem.W.subIn K (.ref E_InvalidNumber) (.type "BaseException") = some true)
    (xt_InvalidNumber : PySem.W.typeIn K (.ref E_InvalidNumber) = some (.type "type"))
    (xk_InvalidOperation : PySem.W.keepIn K (.ref E_InvalidOperation) = true)
    (xs_InvalidOperation : PySem.W.subIn K (.ref E_InvalidOperation) (.type "BaseException") = some true)
    (xt_InvalidOperation : PySem.W.typeIn K (.ref E_InvalidOperation) = some (.type "type"))
    (xk_InvalidPattern : PySem.W.keepIn K (.ref E_InvalidPattern) = true)
    (xs_InvalidPattern : PySem.W.subIn K (.ref E_InvalidPattern) (.type "BaseException") = some true)
    (xt_InvalidPattern : PySem.W.typeIn K (.ref E_InvalidPattern) = some (.type "type"))
    (xk_InvalidSum : PySem.W.keepIn K (.ref E_InvalidSum) = true)
    (xs_InvalidSum : PySem.W.subIn K (.ref E_InvalidSum) (.type "BaseException") = some true)
    (xt_InvalidSum : PySem.W.typeIn K (.ref E_InvalidSum) = some (.type "type"))
    (xk_TooMany : PySem.W.keepIn K (.ref E_TooMany) = true)
    (xs_TooMany : PySem.W.subIn K (.ref E_TooMany) (.type "BaseException") = some true)
    (xt_TooMany : PySem.W.typeIn K (.ref E_TooMany) = some (.type "type"))
    (nsuper : PySem.W.nsIn K mainGlobals "super" = some none)
    (xq_InvalidNumber : PySem.W.excInitIn K E_InvalidNumber [.type "IndexError", .type "LookupError", .type "Exception", .type "BaseException", .type "object"] "IndexError.__new__" = true)
    (xi_InvalidNumber : PySem.W.findIn K (.ref E_InvalidNumber) "__init__" = some (some (.ref fI_InvalidNumber)))
    (xti_InvalidNumber : PySem.W.typeIn K (.ref fI_InvalidNumber) = some (.type "function"))
    (xl_InvalidNumber : K.lookup fI_InvalidNumber = some ⟨oc_InvalidNumber, od_InvalidNumber, .func (PySem.W.ksFn "__init__" qual_InvalidNumber (defArgs e_InvalidNumber) (defBody e_InvalidNumber) (defScope e_InvalidNumber) .none kV_InvalidNumber doc_InvalidNumber pm_InvalidNumber an_InvalidNumber (.ref cda_InvalidNumber) ct_InvalidNumber cc_InvalidNumber), osl_InvalidNumber⟩)
    (xc_InvalidNumber : PySem.W.codeIn K (.ref cda_InvalidNumber) qual_InvalidNumber = true)
    (xlc_InvalidNumber : K.lookup cda_InvalidNumber = some ⟨ccl_InvalidNumber, cdd_InvalidNumber, .fields vs_InvalidNumber, ccs_InvalidNumber⟩)
    (xv_InvalidNumber : vs_InvalidNumber[2]? = some (.str file_InvalidNumber tf_InvalidNumber))
    (xfl_InvalidNumber : ((l.prog.main.file : Str) == file_InvalidNumber) = true)
    (xcc_InvalidNumber : K.lookup cc_InvalidNumber = some ⟨cl_InvalidNumber, cld_InvalidNumber, .cell (some (.ref E_InvalidNumber)), csl_InvalidNumber⟩)
    (xcl_InvalidNumber : PySem.W.clsIn K E_InvalidNumber = some cdC_InvalidNumber)
    (xse_InvalidNumber : PySem.W.mroIn K E_InvalidNumber (.ref E_InvalidNumber) = some true)
    (xop_InvalidNumber : PySem.W.nsIn K PySem.cStatics "thirdparty.any" = some none)
    (xsu_InvalidNumber : PySem.W.ks_superIn K E_InvalidNumber E_InvalidNumber "__init__" = some (some (.builtin "IndexError.__init__")))
    (xB_InvalidNumber : PySem.W.subIn K (.ref E_InvalidNumber) (.type "IndexError") = some true)
    (xst_InvalidNumber : PySem.W.findIn K (.ref E_InvalidNumber) "__setattr__" = some (some (.builtin "object.__setattr__")))
    (xov_InvalidNumber : PySem.W.excOver K E_InvalidNumber [.type "IndexError", .type "LookupError", .type "Exception", .type "BaseException", .type "object"] = true)
    (xta_InvalidNumber : PySem.W.takerIn K E_InvalidNumber "value" = some none)
    (xhd_InvalidNumber : PySem.W.hasDictIn K E_InvalidNumber = true)
    (xtop_InvalidNumber : (l.prog.main.scope.names.lookup ("super" : Str)).isSome = false)
    (xxb_InvalidNumber : L2.xfB K E_InvalidNumber = true)
    (xff_InvalidNumber : PySem.W.findIn K (.ref E_InvalidNumber) "value" = some none)
    (xq_TooMany : PySem.W.excInitIn K E_TooMany [.type "OverflowError", .type "ArithmeticError", .type "Exception", .type "BaseException", .type "object"] "OverflowError.__new__" = true)
    (xi_TooMany : PySem.W.findIn K (.ref E_TooMany) "__init__" = some (some (.ref fI_TooMany)))
    (xti_TooMany : PySem.W.typeIn K (.ref fI_TooMany) = some (.type "function"))
    (xl_TooMany : K.lookup fI_TooMany = some ⟨oc_TooMany, od_TooMany, .func (PySem.W.ksFn "__init__" qual_TooMany (defArgs e_TooMany) (defBody e_TooMany) (defScope e_TooMany) .none kV_TooMany doc_TooMany pm_TooMany an_TooMany (.ref cda_TooMany) ct_TooMany cc_TooMany), osl_TooMany⟩)
    (xc_TooMany : PySem.W.codeIn K (.ref cda_TooMany) qual_TooMany = true)
    (xlc_TooMany : K.lookup cda_TooMany = some ⟨ccl_TooMany, cdd_TooMany, .fields vs_TooMany, ccs_TooMany⟩)
    (xv_TooMany : vs_TooMany[2]? = some (.str file_TooMany tf_TooMany))
    (xfl_TooMany : ((l.prog.main.file : Str) == file_TooMany) = true)
    (xcc_TooMany : K.lookup cc_TooMany = some ⟨cl_TooMany, cld_TooMany, .cell (some (.ref E_TooMany)), csl_TooMany⟩)
    (xcl_TooMany : PySem.W.clsIn K E_TooMany = some cdC_TooMany)
    (xse_TooMany : PySem.W.mroIn K E_TooMany (.ref E_TooMany) = some true)
    (xop_TooMany : PySem.W.nsIn K PySem.cStatics "thirdparty.any" = some none)
    (xsu_TooMany : PySem.W.ks_superIn K E_TooMany E_TooMany "__init__" = some (some (.builtin "OverflowError.__init__")))
    (xB_TooMany : PySem.W.subIn K (.ref E_TooMany) (.type "OverflowError") = some true)
    (xst_TooMany : PySem.W.findIn K (.ref E_TooMany) "__setattr__" = some (some (.builtin "object.__setattr__")))
    (xov_TooMany : PySem.W.excOver K E_TooMany [.type "OverflowError", .type "ArithmeticError", .type "Exception", .type "BaseException", .type "object"] = true)
    (xta_TooMany : PySem.W.takerIn K E_TooMany "limit" = some none)
    (xhd_TooMany : PySem.W.hasDictIn K E_TooMany = true)
    (xtop_TooMany : (l.prog.main.scope.names.lookup ("super" : Str)).isSome = false)
    (xxb_TooMany : L2.xfB K E_TooMany = true)
    (xff_TooMany : PySem.W.findIn K (.ref E_TooMany) "limit" = some none)
    (xq_InvalidLetters : PySem.W.excIn K E_InvalidLetters [.type "ValueError", .type "Exception", .type "BaseException", .type "object"] "ValueError.__new__" = true)
    (xq_InvalidOperation : PySem.W.excIn K E_InvalidOperation [.type "ValueError", .type "Exception", .type "BaseException", .type "object"] "ValueError.__new__" = true)
    (xq_InvalidPattern : PySem.W.excIn K E_InvalidPattern [.type "ValueError", .type "Exception", .type "BaseException", .type "object"] "ValueError.__new__" = true)
    (xq_InvalidSum : PySem.W.excIn K E_InvalidSum [.type "ValueError", .type "Exception", .type "BaseException", .type "object"] "ValueError.__new__" = true)
    (xm : (([("InvalidLetters", E_InvalidLetters), ("InvalidNumber", E_InvalidNumber), ("InvalidOperation", E_InvalidOperation), ("InvalidPattern", E_InvalidPattern), ("InvalidSum", E_InvalidSum), ("TooMany", E_TooMany)] : List (Str × Addr)).all fun r => ([("InvalidLetters", E_InvalidLetters), ("InvalidNumber", E_InvalidNumber), ("InvalidOperation", E_InvalidOperation), ("InvalidPattern", E_InvalidPattern), ("InvalidSum", E_InvalidSum), ("TooMany", E_TooMany)] : List (Str × Addr)).all fun z => decide (PySem.W.exmOne K (.ref r.2) (.ref z.2) = some (xsub r.1 z.1))) = true)
    (tnd : ([P__law_right, P_law] : List Addr).Nodup)
    (tem : ∀ P ∈ ([P__law_right, P_law] : List Addr), h.get? P = some (PySem.W.tabObj #[])) :
    ∃ (T : List (Addr × Str)) (cs : List (Addr × Addr)), @Tabl ⟨T, fun _ => ⟨0, 0, "", [], []⟩⟩ K h cs ∧ ∃ fd : FuncData, (∀ (s : Shared) (v : Value), BindsTo s fd ⟨[v], []⟩ [("_law_script", v)]) ∧ ∀ base : Heap, K.In base → base.Ns mainGlobals mg → (∀ c ∈ cs, LamX.TabB base mg c.1 c.2) → @FnD ⟨T, fun _ => ⟨0, 0, "", [], []⟩⟩ l.prog w K mg base 12 fa fd ["_law_script"] m_law := by
  have e := hfa.symm.trans (PySem.W.mg_of X G a_law)
  cases e
  refine ⟨[(P__law_right, (("_law_right" : Str) ++ ".<locals>." ++ "<lambda>")), (P_law, (("law" : Str) ++ ".<locals>." ++ "<lambda>"))], [(cd__law_right, P__law_right), (cd_law, P_law)], ?_, ?_⟩
  · exact tabl_of X tem (fall_cons tn__law_right (fall_cons tn_law (fall_nil))) (fall_cons th__law_right (fall_cons th_law (fall_nil))) rfl
  letI : TabP := ⟨[(P__law_right, (("_law_right" : Str) ++ ".<locals>." ++ "<lambda>")), (P_law, (("law" : Str) ++ ".<locals>." ++ "<lambda>"))], fun _ => ⟨0, 0, "", [], []⟩⟩
  have T : Txt l.prog K mg := { io_Sum := ⟨_, cn_Sum, PySem.W.mg_of X G cn_Sum, ⟨⟨pg_Sum, hd_Sum, po_Sum, sa_Sum⟩, ca_Sum, gt, tk, mo_Sum, kitF_of hd_Sum ty_Sum kf0_Sum kf1_Sum kf2_Sum kf3_Sum kf4_Sum kf5_Sum kf6_Sum⟩⟩, k_Sum := ⟨_, cn_Sum, ⟨pg_Sum, hd_Sum, po_Sum, sa_Sum⟩⟩, mk_Sum := ⟨_, cn_Sum, PySem.W.mg_of X G cn_Sum, mk_Sum, kc_Sum⟩, x_Sum_own_degree := ⟨_, cn_Sum, x_Sum_own_degree⟩, x_Sum_own_letters := ⟨_, cn_Sum, x_Sum_own_letters⟩, x_Sum_own_prime := ⟨_, cn_Sum, x_Sum_own_prime⟩, x_Sum_own_weights := ⟨_, cn_Sum, x_Sum_own_weights⟩, f_is_integer := defAt_of X G a_is_integer l_is_integer c_is_integer k_is_integer, f_is_pattern_within := defAt_of X G a_is_pattern_within l_is_pattern_within c_is_pattern_within k_is_pattern_within, f_are_weights := defAt_of X G a_are_weights l_are_weights c_are_weights k_are_weights, f_ordered := defAt_of X G a_ordered l_ordered c_ordered k_ordered, f_rest := defAt_of X G a_rest l_rest c_rest k_rest, f_kept_weights := defAt_of X G a_kept_weights l_kept_weights c_kept_weights k_kept_weights, f_is_prime := defAt_of X G a_is_prime l_is_prime c_is_prime k_is_prime, f_require_kind := defAt_of X G a_require_kind l_require_kind c_require_kind k_require_kind, f_are_small := defAt_of X G a_are_small l_are_small c_are_small k_are_small, f_is_letters := defAt_of X G a_is_letters l_is_letters c_is_letters k_is_letters, f_require_letters := defAt_of X G a_require_letters l_require_letters c_require_letters k_require_letters, f_Sum___init__ := (let ⟨fd, h⟩ := funDs_of l_Sum___init__ c_Sum___init__ k_Sum___init__ (kws := [("prime", .non), ("checked", .bl true)]) (fall_cons ⟨_, d0_Sum___init__, rfl⟩ (fall_cons ⟨_, d1_Sum___init__, rfl⟩ (fall_nil))); ⟨_, _, fd, cn_Sum, ⟨pg_Sum, hd_Sum, po_Sum, sa_Sum⟩, ⟨a_Sum___init__, i_Sum___init__, k_Sum___init__⟩, h⟩), f_Sum_weights := ⟨_, _, _, _, cn_Sum, ⟨pg_Sum, hd_Sum, po_Sum, sa_Sum⟩, ⟨a_Sum_weights, g_Sum_weights, t_Sum_weights, ⟨_, r_Sum_weights⟩⟩, fun_mk (st := s_Sum_weights) l_Sum_weights c_Sum_weights k_Sum_weights⟩, f__law_cup := defAt_of X G a__law_cup l__law_cup c__law_cup k__law_cup, f__law_met := defAt_of X G a__law_met l__law_met c__law_met k__law_met, f__law_bit := defAt_of X G a__law_bit l__law_bit c__law_bit k__law_bit, f__law_pick := defAt_of X G a__law_pick l__law_pick c__law_pick k__law_pick, f_is_integer_within := defAt_of X G a_is_integer_within l_is_integer_within c_is_integer_within k_is_integer_within, f_less := defAt_of X G a_less l_less c_less k_less, f_first_row := defAt_of X G a_first_row l_first_row c_first_row k_first_row, f_put := defAt_of X G a_put l_put c_put k_put, f_with_letter := defAt_of X G a_with_letter l_with_letter c_with_letter k_with_letter, f_next_row := defAt_of X G a_next_row l_next_row c_next_row k_next_row, f_overlays_of := defAt_of X G a_overlays_of l_overlays_of c_overlays_of k_overlays_of, f_with_overlays := defAt_of X G a_with_overlays l_with_overlays c_with_overlays k_with_overlays, f_product_of := defAt_of X G a_product_of l_product_of c_product_of k_product_of, f_require_degree := defAt_of X G a_require_degree l_require_degree c_require_degree k_require_degree, f_require_sum := defAt_of X G a_require_sum l_require_sum c_require_sum k_require_sum, f_sum_with := defAt_of X G a_sum_with l_sum_with c_sum_with k_sum_with, f_binomial_of := defAt_of X G a_binomial_of l_binomial_of c_binomial_of k_binomial_of, f_is_text_within := defAt_of X G a_is_text_within l_is_text_within c_is_text_within k_is_text_within, f_are_images := defAt_of X G a_are_images l_are_images c_are_images k_are_images, f_chosen := defAt_of X G a_chosen l_chosen c_chosen k_chosen, f_tails_of := defAt_of X G a_tails_of l_tails_of c_tails_of k_tails_of, f_counts_of := defAt_of X G a_counts_of l_counts_of c_counts_of k_counts_of, f_led_parts := defAt_of X G a_led_parts l_led_parts c_led_parts k_led_parts, f_led := defAt_of X G a_led l_led c_led k_led, f_require_pattern := defAt_of X G a_require_pattern l_require_pattern c_require_pattern k_require_pattern, f_overlays := defAt_of X G a_overlays l_overlays c_overlays k_overlays, f_renamed := defAt_of X G a_renamed l_renamed c_renamed k_renamed, f_turned_round := defAt_of X G a_turned_round l_turned_round c_turned_round k_turned_round, n_abs := PySem.W.mg_none_of X G z_abs, n_all := PySem.W.mg_none_of X G z_all, n_bool := PySem.W.mg_none_of X G z_bool, n_dict := PySem.W.mg_none_of X G z_dict, n_int := PySem.W.mg_none_of X G z_int, n_isinstance := PySem.W.mg_none_of X G z_isinstance, n_len := PySem.W.mg_none_of X G z_len, n_list := PySem.W.mg_none_of X G z_list, n_max := PySem.W.mg_none_of X G z_max, n_min := PySem.W.mg_none_of X G z_min, n_range := PySem.W.mg_none_of X G z_range, n_repr := PySem.W.mg_none_of X G z_repr, n_set := PySem.W.mg_none_of X G z_set, n_sorted := PySem.W.mg_none_of X G z_sorted, n_str := PySem.W.mg_none_of X G z_str, n_sum := PySem.W.mg_none_of X G z_sum, n_tuple := PySem.W.mg_none_of X G z_tuple, n_zip := PySem.W.mg_none_of X G z_zip, c_GREATEST := glob_int X G g_GREATEST, c_MAX_DEGREE := glob_int X G g_MAX_DEGREE, c_MAX_IMAGE := glob_int X G g_MAX_IMAGE, c_MAX_OVERLAY := glob_int X G g_MAX_OVERLAY, c_MAX_PATTERN := glob_int X G g_MAX_PATTERN, c_MAX_SIZE := glob_int X G g_MAX_SIZE, c_MAX_TEXT := glob_int X G g_MAX_TEXT, c_MAX_WEIGHTS := glob_int X G g_MAX_WEIGHTS, c_MOST_LETTERS := glob_int X G g_MOST_LETTERS, c_PRIMES := glob_tup X G g_PRIMES h_PRIMES (by show 4 ≤ sizeLine; decide) (xs := [.int (2), .int (3), .int (5), .int (7)]) (.cons ⟨_, rfl⟩ (.cons ⟨_, rfl⟩ (.cons ⟨_, rfl⟩ (.cons ⟨_, rfl⟩ (.nil))))) (fun _ => .cons (.int (2)) (.cons (.int (3)) (.cons (.int (5)) (.cons (.int (7)) (.nil))))), ei_InvalidNumber := errN_of X G et_InvalidNumber PySem.F.excBase_IndexError PySem.W.kxs_IndexError PySem.F.store_IndexError (fun _ _ _ _ _ _ _ => argEv_str) xn_InvalidNumber nsuper xk_InvalidNumber xs_InvalidNumber xt_InvalidNumber xq_InvalidNumber xi_InvalidNumber xti_InvalidNumber xl_InvalidNumber xc_InvalidNumber xlc_InvalidNumber xv_InvalidNumber xfl_InvalidNumber xcc_InvalidNumber xcl_InvalidNumber xse_InvalidNumber xop_InvalidNumber xsu_InvalidNumber xB_InvalidNumber xst_InvalidNumber xov_InvalidNumber xta_InvalidNumber xhd_InvalidNumber xtop_InvalidNumber, ei_TooMany := errN_of X G et_TooMany PySem.F.excBase_OverflowError PySem.W.kxs_OverflowError PySem.F.store_OverflowError (argEv_fmt) xn_TooMany nsuper xk_TooMany xs_TooMany xt_TooMany xq_TooMany xi_TooMany xti_TooMany xl_TooMany xc_TooMany xlc_TooMany xv_TooMany xfl_TooMany xcc_TooMany xcl_TooMany xse_TooMany xop_TooMany xsu_TooMany xB_TooMany xst_TooMany xov_TooMany xta_TooMany xhd_TooMany xtop_TooMany, er_InvalidLetters := errC_of X G xn_InvalidLetters xk_InvalidLetters PySem.F.excBase_ValueError xq_InvalidLetters xs_InvalidLetters xt_InvalidLetters, er_InvalidOperation := errC_of X G xn_InvalidOperation xk_InvalidOperation PySem.F.excBase_ValueError xq_InvalidOperation xs_InvalidOperation xt_InvalidOperation, er_InvalidPattern := errC_of X G xn_InvalidPattern xk_InvalidPattern PySem.F.excBase_ValueError xq_InvalidPattern xs_InvalidPattern xt_InvalidPattern, er_InvalidSum := errC_of X G xn_InvalidSum xk_InvalidSum PySem.F.excBase_ValueError xq_InvalidSum xs_InvalidSum xt_InvalidSum, xf := xfacts_of X G [("InvalidLetters", E_InvalidLetters), ("InvalidNumber", E_InvalidNumber), ("InvalidOperation", E_InvalidOperation), ("InvalidPattern", E_InvalidPattern), ("InvalidSum", E_InvalidSum), ("TooMany", E_TooMany)] [("InvalidLetters", E_InvalidLetters), ("InvalidNumber", E_InvalidNumber), ("InvalidOperation", E_InvalidOperation), ("InvalidPattern", E_InvalidPattern), ("InvalidSum", E_InvalidSum), ("TooMany", E_TooMany)] [("InvalidNumber", "value", E_InvalidNumber), ("TooMany", "limit", E_TooMany)] rfl rfl rfl (fall_cons xn_InvalidLetters (fall_cons xn_InvalidNumber (fall_cons xn_InvalidOperation (fall_cons xn_InvalidPattern (fall_cons xn_InvalidSum (fall_cons xn_TooMany (fall_nil))))))) (fall_cons xn_InvalidLetters (fall_cons xn_InvalidNumber (fall_cons xn_InvalidOperation (fall_cons xn_InvalidPattern (fall_cons xn_InvalidSum (fall_cons xn_TooMany (fall_nil))))))) (fall_cons xn_InvalidNumber (fall_cons xn_TooMany (fall_nil))) xm (fall_cons ⟨xxb_InvalidNumber, xff_InvalidNumber⟩ (fall_cons ⟨xxb_TooMany, xff_TooMany⟩ (fall_nil))) }
  refine ⟨PySem.W.fnOf "law" "law" (defArgs s_law) (defBody s_law) (defScope s_law) .none kV_law dc_law pm_law an_law (.ref cd_law) ct_law, fun s v => .of_eq rfl, fun base _ _ tb => ?_⟩
  have U : Tbs K mg base := { t__law_right := ⟨cd__law_right, ⟨_, _, _, _, _, _, _, _, _, l__law_right, c__law_right, k__law_right, PySem.W.mg_of X G a__law_right⟩, tabOf_of (tb (cd__law_right, P__law_right) (.head _)) tnd (.head _)⟩ }
  exact fn_law T U (tabOf_of (tb (cd_law, P_law) (.tail _ (.head _))) tnd (.tail _ (.head _))) ⟨_, _, _, _, _, _, _, _, rfl, l_law, c_law⟩
end Wk15
open PySem PySem.W PyProof.Rows
set_option maxHeartbeats 0 in
theorem PySem.Challenge.cw_whatcounts_k15_errors_of_overlays_holds : PySem.Challenge.rw_whatcounts_k15_errors_of_overlays.Holds := by
  refine hd_top ?_
  k_fill
  refine Dk.walk_D (l := PySem.Challenge.rw_whatcounts_k15_errors_of_overlays) (n := 63) (k := 12) (x := "_law_script") (m := Wk15.m_law) rfl (by decide) rfl ⟨rfl, by decide, by decide⟩ (fun w h Y => PySem.W.km_in_of Y) ?F ?m
  case F =>
    intro w mg fa h Y KX G hmg
    refine' Wk15.all_mk KX G hmg ?gt ?tk ?cn_Sum ?pg_Sum ?hd_Sum ?po_Sum ?sa_Sum ?ca_Sum ?mo_Sum ?kf0_Sum ?kf1_Sum ?kf2_Sum ?kf3_Sum ?kf4_Sum ?kf5_Sum ?kf6_Sum ?ty_Sum ?mk_Sum ?kc_Sum ?x_Sum_own_degree ?x_Sum_own_letters ?x_Sum_own_prime ?x_Sum_own_weights ?a_is_integer ?l_is_integer ?c_is_integer ?k_is_integer ?a_is_pattern_within ?l_is_pattern_within ?c_is_pattern_within ?k_is_pattern_within ?a_are_weights ?l_are_weights ?c_are_weights ?k_are_weights ?a_ordered ?l_ordered ?c_ordered ?k_ordered ?a_rest ?l_rest ?c_rest ?k_rest ?a_kept_weights ?l_kept_weights ?c_kept_weights ?k_kept_weights ?a_is_prime ?l_is_prime ?c_is_prime ?k_is_prime ?a_require_kind ?l_require_kind ?c_require_kind ?k_require_kind ?a_are_small ?l_are_small ?c_are_small ?k_are_small ?a_is_letters ?l_is_letters ?c_is_letters ?k_is_letters ?a_require_letters ?l_require_letters ?c_require_letters ?k_require_letters ?a_Sum___init__ ?i_Sum___init__ ?l_Sum___init__ ?c_Sum___init__ ?k_Sum___init__ ?d0_Sum___init__ ?d1_Sum___init__ ?a_Sum_weights ?g_Sum_weights ?t_Sum_weights ?r_Sum_weights ?l_Sum_weights ?c_Sum_weights ?k_Sum_weights ?a__law_cup ?l__law_cup ?c__law_cup ?k__law_cup ?a__law_met ?l__law_met ?c__law_met ?k__law_met ?a__law_bit ?l__law_bit ?c__law_bit ?k__law_bit ?a__law_pick ?l__law_pick ?c__law_pick ?k__law_pick ?a_is_integer_within ?l_is_integer_within ?c_is_integer_within ?k_is_integer_within ?a_less ?l_less ?c_less ?k_less ?a_first_row ?l_first_row ?c_first_row ?k_first_row ?a_put ?l_put ?c_put ?k_put ?a_with_letter ?l_with_letter ?c_with_letter ?k_with_letter ?a_next_row ?l_next_row ?c_next_row ?k_next_row ?a_overlays_of ?l_overlays_of ?c_overlays_of ?k_overlays_of ?a_with_overlays ?l_with_overlays ?c_with_overlays ?k_with_overlays ?a_product_of ?l_product_of ?c_product_of ?k_product_of ?a_require_degree ?l_require_degree ?c_require_degree ?k_require_degree ?a_require_sum ?l_require_sum ?c_require_sum ?k_require_sum ?a_sum_with ?l_sum_with ?c_sum_with ?k_sum_with ?a_binomial_of ?l_binomial_of ?c_binomial_of ?k_binomial_of ?a_is_text_within ?l_is_text_within ?c_is_text_within ?k_is_text_within ?a_are_images ?l_are_images ?c_are_images ?k_are_images ?a_chosen ?l_chosen ?c_chosen ?k_chosen ?a_tails_of ?l_tails_of ?c_tails_of ?k_tails_of ?a_counts_of ?l_counts_of ?c_counts_of ?k_counts_of ?a_led_parts ?l_led_parts ?c_led_parts ?k_led_parts ?a_led ?l_led ?c_led ?k_led ?a_require_pattern ?l_require_pattern ?c_require_pattern ?k_require_pattern ?a_overlays ?l_overlays ?c_overlays ?k_overlays ?a_renamed ?l_renamed ?c_renamed ?k_renamed ?a_turned_round ?l_turned_round ?c_turned_round ?k_turned_round ?a__law_right ?l__law_right ?c__law_right ?k__law_right ?tl__law_right ?tp__law_right ?th__law_right ?tn__law_right ?a_law ?l_law ?c_law ?k_law ?tl_law ?tp_law ?th_law ?tn_law ?z_abs ?z_all ?z_bool ?z_dict ?z_int ?z_isinstance ?z_len ?z_list ?z_max ?z_min ?z_range ?z_repr ?z_set ?z_sorted ?z_str ?z_sum ?z_tuple ?z_zip ?g_GREATEST ?g_MAX_DEGREE ?g_MAX_IMAGE ?g_MAX_OVERLAY ?g_MAX_PATTERN ?g_MAX_SIZE ?g_MAX_TEXT ?g_MAX_WEIGHTS ?g_MOST_LETTERS ?g_PRIMES ?h_PRIMES ?xn_InvalidLetters ?xn_InvalidNumber ?xn_InvalidOperation ?xn_InvalidPattern ?xn_InvalidSum ?xn_TooMany ?xk_InvalidLetters ?xs_InvalidLetters ?xt_InvalidLetters ?xk_InvalidNumber ?xs_InvalidNumber ?xt_InvalidNumber ?xk_InvalidOperation ?xs_InvalidOperation ?xt_InvalidOperation ?xk_InvalidPattern ?xs_InvalidPattern ?xt_InvalidPattern ?xk_InvalidSum ?xs_InvalidSum ?xt_InvalidSum ?xk_TooMany ?xs_TooMany ?xt_TooMany ?nsuper ?xq_InvalidNumber ?xi_InvalidNumber ?xti_InvalidNumber ?xl_InvalidNumber ?xc_InvalidNumber ?xlc_InvalidNumber ?xv_InvalidNumber ?xfl_InvalidNumber ?xcc_InvalidNumber ?xcl_InvalidNumber ?xse_InvalidNumber ?xop_InvalidNumber ?xsu_InvalidNumber ?xB_InvalidNumber ?xst_InvalidNumber ?xov_InvalidNumber ?xta_InvalidNumber ?xhd_InvalidNumber ?xtop_InvalidNumber ?xxb_InvalidNumber ?xff_InvalidNumber ?xq_TooMany ?xi_TooMany ?xti_TooMany ?xl_TooMany ?xc_TooMany ?xlc_TooMany ?xv_TooMany ?xfl_TooMany ?xcc_TooMany ?xcl_TooMany ?xse_TooMany ?xop_TooMany ?xsu_TooMany ?xB_TooMany ?xst_TooMany ?xov_TooMany ?xta_TooMany ?xhd_TooMany ?xtop_TooMany ?xxb_TooMany ?xff_TooMany ?xq_InvalidLetters ?xq_InvalidOperation ?xq_InvalidPattern ?xq_InvalidSum ?xm ?tnd ?tem
    (case gt => k_is)
    (case tk => k_is)
    (case cn_Sum => k_is)
    (case pg_Sum => k_is)
    (case hd_Sum => k_is)
    (case po_Sum => k_is)
    (case sa_Sum => k_is)
    (case ca_Sum => k_is)
    (case mo_Sum => k_is)
    (case kf0_Sum => k_is)
    (case kf1_Sum => k_is)
    (case kf2_Sum => k_is)
    (case kf3_Sum => k_is)
    (case kf4_Sum => k_is)
    (case kf5_Sum => k_is)
    (case kf6_Sum => k_is)
    (case ty_Sum => k_is)
    (case mk_Sum => k_is)
    (case kc_Sum => k_is)
    (case x_Sum_own_degree => k_is)
    (case x_Sum_own_letters => k_is)
    (case x_Sum_own_prime => k_is)
    (case x_Sum_own_weights => k_is)
    (case a_is_integer => k_is)
    (case l_is_integer => k_is)
    (case c_is_integer => k_is)
    (case k_is_integer => k_is)
    (case a_is_pattern_within => k_is)
    (case l_is_pattern_within => k_is)
    (case c_is_pattern_within => k_is)
    (case k_is_pattern_within => k_is)
    (case a_are_weights => k_is)
    (case l_are_weights => k_is)
    (case c_are_weights => k_is)
    (case k_are_weights => k_is)
    (case a_ordered => k_is)
    (case l_ordered => k_is)
    (case c_ordered => k_is)
    (case k_ordered => k_is)
    (case a_rest => k_is)
    (case l_rest => k_is)
    (case c_rest => k_is)
    (case k_rest => k_is)
    (case a_kept_weights => k_is)
    (case l_kept_weights => k_is)
    (case c_kept_weights => k_is)
    (case k_kept_weights => k_is)
    (case a_is_prime => k_is)
    (case l_is_prime => k_is)
    (case c_is_prime => k_is)
    (case k_is_prime => k_is)
    (case a_require_kind => k_is)
    (case l_require_kind => k_is)
    (case c_require_kind => k_is)
    (case k_require_kind => k_is)
    (case a_are_small => k_is)
    (case l_are_small => k_is)
    (case c_are_small => k_is)
    (case k_are_small => k_is)
    (case a_is_letters => k_is)
    (case l_is_letters => k_is)
    (case c_is_letters => k_is)
    (case k_is_letters => k_is)
    (case a_require_letters => k_is)
    (case l_require_letters => k_is)
    (case c_require_letters => k_is)
    (case k_require_letters => k_is)
    (case a_Sum___init__ => k_is)
    (case i_Sum___init__ => k_is)
    (case l_Sum___init__ => k_is)
    (case c_Sum___init__ => k_is)
    (case k_Sum___init__ => k_is)
    (case d0_Sum___init__ => k_is)
    (case d1_Sum___init__ => k_is)
    (case a_Sum_weights => k_is)
    (case g_Sum_weights => k_is)
    (case t_Sum_weights => k_is)
    (case r_Sum_weights => k_is)
    (case l_Sum_weights => k_is)
    (case c_Sum_weights => k_is)
    (case k_Sum_weights => k_is)
    (case a__law_cup => k_is)
    (case l__law_cup => k_is)
    (case c__law_cup => k_is)
    (case k__law_cup => k_is)
    (case a__law_met => k_is)
    (case l__law_met => k_is)
    (case c__law_met => k_is)
    (case k__law_met => k_is)
    (case a__law_bit => k_is)
    (case l__law_bit => k_is)
    (case c__law_bit => k_is)
    (case k__law_bit => k_is)
    (case a__law_pick => k_is)
    (case l__law_pick => k_is)
    (case c__law_pick => k_is)
    (case k__law_pick => k_is)
    (case a_is_integer_within => k_is)
    (case l_is_integer_within => k_is)
    (case c_is_integer_within => k_is)
    (case k_is_integer_within => k_is)
    (case a_less => k_is)
    (case l_less => k_is)
    (case c_less => k_is)
    (case k_less => k_is)
    (case a_first_row => k_is)
    (case l_first_row => k_is)
    (case c_first_row => k_is)
    (case k_first_row => k_is)
    (case a_put => k_is)
    (case l_put => k_is)
    (case c_put => k_is)
    (case k_put => k_is)
    (case a_with_letter => k_is)
    (case l_with_letter => k_is)
    (case c_with_letter => k_is)
    (case k_with_letter => k_is)
    (case a_next_row => k_is)
    (case l_next_row => k_is)
    (case c_next_row => k_is)
    (case k_next_row => k_is)
    (case a_overlays_of => k_is)
    (case l_overlays_of => k_is)
    (case c_overlays_of => k_is)
    (case k_overlays_of => k_is)
    (case a_with_overlays => k_is)
    (case l_with_overlays => k_is)
    (case c_with_overlays => k_is)
    (case k_with_overlays => k_is)
    (case a_product_of => k_is)
    (case l_product_of => k_is)
    (case c_product_of => k_is)
    (case k_product_of => k_is)
    (case a_require_degree => k_is)
    (case l_require_degree => k_is)
    (case c_require_degree => k_is)
    (case k_require_degree => k_is)
    (case a_require_sum => k_is)
    (case l_require_sum => k_is)
    (case c_require_sum => k_is)
    (case k_require_sum => k_is)
    (case a_sum_with => k_is)
    (case l_sum_with => k_is)
    (case c_sum_with => k_is)
    (case k_sum_with => k_is)
    (case a_binomial_of => k_is)
    (case l_binomial_of => k_is)
    (case c_binomial_of => k_is)
    (case k_binomial_of => k_is)
    (case a_is_text_within => k_is)
    (case l_is_text_within => k_is)
    (case c_is_text_within => k_is)
    (case k_is_text_within => k_is)
    (case a_are_images => k_is)
    (case l_are_images => k_is)
    (case c_are_images => k_is)
    (case k_are_images => k_is)
    (case a_chosen => k_is)
    (case l_chosen => k_is)
    (case c_chosen => k_is)
    (case k_chosen => k_is)
    (case a_tails_of => k_is)
    (case l_tails_of => k_is)
    (case c_tails_of => k_is)
    (case k_tails_of => k_is)
    (case a_counts_of => k_is)
    (case l_counts_of => k_is)
    (case c_counts_of => k_is)
    (case k_counts_of => k_is)
    (case a_led_parts => k_is)
    (case l_led_parts => k_is)
    (case c_led_parts => k_is)
    (case k_led_parts => k_is)
    (case a_led => k_is)
    (case l_led => k_is)
    (case c_led => k_is)
    (case k_led => k_is)
    (case a_require_pattern => k_is)
    (case l_require_pattern => k_is)
    (case c_require_pattern => k_is)
    (case k_require_pattern => k_is)
    (case a_overlays => k_is)
    (case l_overlays => k_is)
    (case c_overlays => k_is)
    (case k_overlays => k_is)
    (case a_renamed => k_is)
    (case l_renamed => k_is)
    (case c_renamed => k_is)
    (case k_renamed => k_is)
    (case a_turned_round => k_is)
    (case l_turned_round => k_is)
    (case c_turned_round => k_is)
    (case k_turned_round => k_is)
    (case a__law_right => k_is)
    (case l__law_right => k_is)
    (case c__law_right => k_is)
    (case k__law_right => k_is)
    (case tl__law_right => k_is)
    (case tp__law_right => rfl)
    (case th__law_right => kernel_rfl)
    (case tn__law_right => kernel_rfl)
    (case a_law => k_is)
    (case l_law => k_is)
    (case c_law => k_is)
    (case k_law => k_is)
    (case tl_law => k_is)
    (case tp_law => rfl)
    (case th_law => kernel_rfl)
    (case tn_law => kernel_rfl)
    (case z_abs => k_is)
    (case z_all => k_is)
    (case z_bool => k_is)
    (case z_dict => k_is)
    (case z_int => k_is)
    (case z_isinstance => k_is)
    (case z_len => k_is)
    (case z_list => k_is)
    (case z_max => k_is)
    (case z_min => k_is)
    (case z_range => k_is)
    (case z_repr => k_is)
    (case z_set => k_is)
    (case z_sorted => k_is)
    (case z_str => k_is)
    (case z_sum => k_is)
    (case z_tuple => k_is)
    (case z_zip => k_is)
    (case g_GREATEST => k_is)
    (case g_MAX_DEGREE => k_is)
    (case g_MAX_IMAGE => k_is)
    (case g_MAX_OVERLAY => k_is)
    (case g_MAX_PATTERN => k_is)
    (case g_MAX_SIZE => k_is)
    (case g_MAX_TEXT => k_is)
    (case g_MAX_WEIGHTS => k_is)
    (case g_MOST_LETTERS => k_is)
    (case g_PRIMES => k_is)
    (case h_PRIMES => k_is)
    (case xn_InvalidLetters => k_is)
    (case xn_InvalidNumber => k_is)
    (case xn_InvalidOperation => k_is)
    (case xn_InvalidPattern => k_is)
    (case xn_InvalidSum => k_is)
    (case xn_TooMany => k_is)
    (case xk_InvalidLetters => k_is)
    (case xs_InvalidLetters => k_is)
    (case xt_InvalidLetters => k_is)
    (case xk_InvalidNumber => k_is)
    (case xs_InvalidNumber => k_is)
    (case xt_InvalidNumber => k_is)
    (case xk_InvalidOperation => k_is)
    (case xs_InvalidOperation => k_is)
    (case xt_InvalidOperation => k_is)
    (case xk_InvalidPattern => k_is)
    (case xs_InvalidPattern => k_is)
    (case xt_InvalidPattern => k_is)
    (case xk_InvalidSum => k_is)
    (case xs_InvalidSum => k_is)
    (case xt_InvalidSum => k_is)
    (case xk_TooMany => k_is)
    (case xs_TooMany => k_is)
    (case xt_TooMany => k_is)
    (case nsuper => k_is)
    (case xq_InvalidNumber => kernel_rfl)
    (case xi_InvalidNumber => k_is)
    (case xti_InvalidNumber => k_is)
    (case xl_InvalidNumber => k_is)
    (case xc_InvalidNumber => k_is)
    (case xlc_InvalidNumber => k_is)
    (case xv_InvalidNumber => rfl)
    (case xfl_InvalidNumber => kernel_rfl)
    (case xcc_InvalidNumber => k_is)
    (case xcl_InvalidNumber => k_is)
    (case xse_InvalidNumber => k_is)
    (case xop_InvalidNumber => k_is)
    (case xsu_InvalidNumber => kernel_rfl)
    (case xB_InvalidNumber => k_is)
    (case xst_InvalidNumber => k_is)
    (case xov_InvalidNumber => kernel_rfl)
    (case xta_InvalidNumber => k_is)
    (case xhd_InvalidNumber => k_is)
    (case xtop_InvalidNumber => kernel_rfl)
    (case xxb_InvalidNumber => kernel_rfl)
    (case xff_InvalidNumber => k_is)
    (case xq_TooMany => kernel_rfl)
    (case xi_TooMany => k_is)
    (case xti_TooMany => k_is)
    (case xl_TooMany => k_is)
    (case xc_TooMany => k_is)
    (case xlc_TooMany => k_is)
    (case xv_TooMany => rfl)
    (case xfl_TooMany => kernel_rfl)
    (case xcc_TooMany => k_is)
    (case xcl_TooMany => k_is)
    (case xse_TooMany => k_is)
    (case xop_TooMany => k_is)
    (case xsu_TooMany => kernel_rfl)
    (case xB_TooMany => k_is)
    (case xst_TooMany => k_is)
    (case xov_TooMany => kernel_rfl)
    (case xta_TooMany => k_is)
    (case xhd_TooMany => k_is)
    (case xtop_TooMany => kernel_rfl)
    (case xxb_TooMany => kernel_rfl)
    (case xff_TooMany => k_is)
    (case xq_InvalidLetters => kernel_rfl)
    (case xq_InvalidOperation => kernel_rfl)
    (case xq_InvalidPattern => kernel_rfl)
    (case xq_InvalidSum => kernel_rfl)
    (case xm => kernel_rfl)
    (case tnd => decide)
    (case tem => (intro P hP; refine PySem.W.km_tabs_of Y P ?_; revert hP; revert P; decide))
  case m => exact fun ns _ _ => Wk15.law_true ns
