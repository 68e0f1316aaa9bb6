import PyProof.Rows.All
import Wide.All
import OpenK.AllK
import Wide.FinOn
import KE.KStateDown
import Lean
import HandS.Base
import HandS.Call
import HandS.Ends
import HandS.More
import HandS.Words
import HandS.WordsExc
import HandS.Defaults
import HandS.Head0
import HandS.Head1
import HandS.Head2
import HandS.Head3
import HandS.HeadEnd
import HandS.HeadHook1
import HandS.HeadHook2
import HandS.ForMost
import HandS.Zip
import HandS.TupAny
import HandS.TupMul
import HandS.IsInst
import HandS.Wide
import HandS.Gcd
import HandS.Style
import HandS.Conv
import KE.SortKeyHeap
import KE.KSortKeyAny
import HandS.SortKw
import HandS.Keys
import HandS.TupSets
import HandS.Exc
import HandS.TryOnly
import HandS.ExcOwn
import HandS.Flow
import PySem.Challenge.RW_recordfits_k61_whole_changes_by_all_lots
section
set_option Elab.async false
set_option linter.all false
set_option maxRecDepth 100000
set_option maxHeartbeats 0
namespace Hd
open PySem PySem.Spec PyProof.Rows L2
def top (i : Nat) : Stmt := PySem.Challenge.pw_recordfits_k61_whole_changes_by_all_lots.main.body.getD i (.Pass ⟨0, 0, 0, 0⟩)
def dd (x : Str) (i : Nat) : He.DefD := ⟨(x, none), x, x, defArgs (top i), defBody (top i), defScope (top i), [], []⟩
def fn0 : List He.DefD := [dd "tupled" 7, dd "part_of" 8, dd "part_plus" 9, dd "part_minus" 10, dd "part_times" 11, dd "part_over" 12, dd "cells_plus" 13, dd "cells_times" 14, dd "cells_none" 15, dd "are_none" 16, dd "unit_row" 18, dd "lead_of" 19, dd "lessened_by" 20, dd "reduced_rows" 21, dd "zeros_of" 22, dd "columns" 24, dd "next_columns" 25, dd "weighed" 26, dd "clash_in" 27, dd "found_clash" 28]
def fn1 : List He.DefD := [dd "could_be" 29, dd "part_noted" 31, dd "fits_between" 32, dd "part_fits" 33, dd "front_ends" 34, dd "back_starts" 35, dd "fewest_changes" 36, dd "latest_changes" 37, dd "earliest_changes" 38, dd "could_change" 39, dd "parts_around" 40, dd "sure_change" 41, dd "_law_box" 43, dd "_law_take" 44, dd "_law_cells" 45, dd "_law_of" 46, dd "_law_lists" 47, dd "_law_same" 48, dd "_law_gcd" 49, dd "_law_fr" 50]
def fn2 : List He.DefD := [dd "_law_sum" 51, dd "_law_less_by" 52, dd "_law_mul" 53, dd "_law_dot" 54, dd "_law_both_rows" 55, dd "_law_next" 56, dd "_law_steps" 57, dd "_law_over_any" 58, dd "_law_struck" 59, dd "_law_rank" 60, dd "_law_idle" 61, dd "_law_subsets" 62, dd "_law_small" 63, dd "_law_row" 64, dd "_law_on" 65, dd "_law_goes" 66, dd "_law_whole" 67, dd "_law_machine" 68, dd "_law_given" 69, dd "_law_ticks_of" 70]
def fn3 : List He.DefD := [dd "_law_fit_parts" 71, dd "_law_lots_of_changes" 72, dd "_law_shifted" 73, dd "_law_drawn_piece" 74, dd "_law_heard" 75, dd "_law_refused" 76, dd "_law_piece_right" 77, dd "_law_by_hand_right" 78, dd "law" 79]
def fn : List He.DefD := fn0 ++ fn1 ++ fn2 ++ fn3
def fa0 : List He.Fa := [.free "LookupError", .free "ValueError", .free "abs", .free "all", .free "any", .free "bool", .free "enumerate", .free "int", .free "isinstance", .free "len", .free "list", .free "max", .free "min", .free "range", .free "sorted", .free "str", .free "tuple", .free "zip", .exc "Unfit", .exm "Unfit" "Unfit" true, .glo "NONE", .glo "FULL", .glo "Unfit"]
def fg0 : List He.Fa := [.glo "tupled", .glo "part_of", .glo "part_plus", .glo "part_minus", .glo "part_times", .glo "part_over", .glo "cells_plus", .glo "cells_times", .glo "cells_none", .glo "are_none", .glo "unit_row", .glo "lead_of", .glo "lessened_by", .glo "reduced_rows", .glo "zeros_of", .glo "columns", .glo "next_columns", .glo "weighed", .glo "clash_in", .glo "found_clash"]
def fg1 : List He.Fa := [.glo "could_be", .glo "part_noted", .glo "fits_between", .glo "part_fits", .glo "front_ends", .glo "back_starts", .glo "fewest_changes", .glo "latest_changes", .glo "earliest_changes", .glo "could_change", .glo "parts_around", .glo "sure_change", .glo "_law_box", .glo "_law_take", .glo "_law_cells", .glo "_law_of", .glo "_law_lists", .glo "_law_same", .glo "_law_gcd", .glo "_law_fr"]
def fg2 : List He.Fa := [.glo "_law_sum", .glo "_law_less_by", .glo "_law_mul", .glo "_law_dot", .glo "_law_both_rows", .glo "_law_next", .glo "_law_steps", .glo "_law_over_any", .glo "_law_struck", .glo "_law_rank", .glo "_law_idle", .glo "_law_subsets", .glo "_law_small", .glo "_law_row", .glo "_law_on", .glo "_law_goes", .glo "_law_whole", .glo "_law_machine", .glo "_law_given", .glo "_law_ticks_of"]
def fg3 : List He.Fa := [.glo "_law_fit_parts", .glo "_law_lots_of_changes", .glo "_law_shifted", .glo "_law_drawn_piece", .glo "_law_heard", .glo "_law_refused", .glo "_law_piece_right", .glo "_law_by_hand_right", .glo "law"]
def fa : List He.Fa := fa0 ++ fg0 ++ fg1 ++ fg2 ++ fg3
def names0 : List PySem.Str := ["__name__", "NoTick", "Unfit", "NONE", "FULL", "tupled", "part_of", "part_plus", "part_minus", "part_times", "part_over", "cells_plus", "cells_times", "cells_none", "are_none", "unit_row", "lead_of", "lessened_by", "reduced_rows", "zeros_of", "columns", "next_columns", "weighed", "clash_in", "found_clash", "could_be", "part_noted", "fits_between", "part_fits", "front_ends"]
def names1 : List PySem.Str := ["back_starts", "fewest_changes", "latest_changes", "earliest_changes", "could_change", "parts_around", "sure_change", "_law_box", "_law_take", "_law_cells", "_law_of", "_law_lists", "_law_same", "_law_gcd", "_law_fr", "_law_sum", "_law_less_by", "_law_mul", "_law_dot", "_law_both_rows", "_law_next", "_law_steps", "_law_over_any", "_law_struck", "_law_rank", "_law_idle", "_law_subsets", "_law_small", "_law_row", "_law_on"]
def names2 : List PySem.Str := ["_law_goes", "_law_whole", "_law_machine", "_law_given", "_law_ticks_of", "_law_fit_parts", "_law_lots_of_changes", "_law_shifted", "_law_drawn_piece", "_law_heard", "_law_refused", "_law_piece_right", "_law_by_hand_right"]
def names : List PySem.Str := names0 ++ names1 ++ names2

abbrev R : PySem.W.OpenRow := PySem.W.OpenLaw.row PySem.Challenge.rw_recordfits_k61_whole_changes_by_all_lots
def exK (K : PySem.W.Frag) : Bool := He.tupB K "NONE" [.int 0, .int 1] && He.tupB K "FULL" [.int 1, .int 1] && He.eqO (PySem.W.nsIn K mainGlobals "gcd") (some (some (.builtin "math.gcd")))
abbrev AlX : Type := He.AlD × Bool
def obsX (n : Nat) (g : Addr → Option Obj) : AlX := (He.obsD fa fn (He.frG g (He.asD g n)), exK (He.frG g (He.asD g n)))
def hk : PySem.W.Hook where
  α := AlX
  obs := fun s => obsX 4 s.heap.get?
  val := fun _ => (He.valD fn, true)
  says := fun _ h => ∃ K : PySem.W.Frag, K.In h ∧ He.SaysD fa fn K ∧ exK K = true
  of := fun _ _ e => ⟨_, He.frG_in, congrArg (fun z : AlX => z.1) e, congrArg (fun z : AlX => z.2) e⟩
  keeps := fun _ _ _ ⟨K, hK, c⟩ k => ⟨K, PySem.W.Frag.In.keeps hK k, c⟩
def ob (s : PySem.W.SharedT) : AlX := obsX 4 (HandSHeadRun.getT s)
theorem ob_eq (s : PySem.W.SharedT) : ob s = hk.obs s.abs := by
  have e : HandSHeadRun.getT s = s.abs.heap.get? := funext (HandSHeadRun.getT_eq s)
  unfold ob
  rw [e]
  rfl
theorem run (w : World) : HandSHeadRun.RunEqI R (PySem.W.view R.prog [0, 79]) hk ob 3000 names w := by
  unfold HandSHeadRun.RunEqI
  kernel_rfl
end Hd
end
section
set_option Elab.async false
set_option linter.all false
set_option maxRecDepth 100000
/-! PD0: values as plain data, the heap told by a ghost part that never changes; what a step of a run keeps. -/
namespace Pd
open PySem PySem.Spec PyProof.Rows L2

/-- a value as data; tin: the one object of draws -/
inductive D where
  | non | bl (b : Bool) | int (i : Int) | tup (l : List D) | lst (l : List D) | dic (l : List ((Int × Int) × Bool)) | tin
deriving Inhabited

def dKV (l : List ((Int × Int) × Bool)) : List (List Key × V) := l.map fun p => ([.inl p.1.1, .inl p.1.2], .bl p.2)

mutual
inductive Rep (K : PySem.W.Frag) (τ : Option Addr) (G : Hp) : V → D → Prop
  | non : Rep K τ G .non .non
  | bl (b : Bool) : Rep K τ G (.bl b) (.bl b)
  | int (i : Int) : Rep K τ G (.int i) (.int i)
  | tup {a : Addr} {xs : List V} {ds : List D} : SqT K G a xs → Reps K τ G xs ds → Rep K τ G (.ref a) (.tup ds)
  | lst {a : Addr} {xs : List V} {ds : List D} : G a = some (.lst xs) → Reps K τ G xs ds → Rep K τ G (.ref a) (.lst ds)
  | dic {a : Addr} {kvs : List ((Int × Int) × Bool)} : G a = some (.dT (dKV kvs)) → Rep K τ G (.ref a) (.dic kvs)
  | tin {a : Addr} : τ = some a → Rep K τ G (.ref a) .tin
inductive Reps (K : PySem.W.Frag) (τ : Option Addr) (G : Hp) : List V → List D → Prop
  | nil : Reps K τ G [] []
  | cons {v : V} {vs : List V} {d : D} {ds : List D} : Rep K τ G v d → Reps K τ G vs ds → Reps K τ G (v :: vs) (d :: ds)
end

section
variable {K : PySem.W.Frag} {τ : Option Addr} {G G' H H' H0 : Hp} {v : V} {d : D} {vs ws : List V} {ds es : List D}

theorem sqT_mono {a : Addr} {xs : List V} (h : ∀ a o, G a = some o → G' a = some o) (s : SqT K G a xs) : SqT K G' a xs := by
  rcases s with (s | ⟨o, s⟩) | s
  · exact .inl (.inl (h _ _ s))
  · exact .inl (.inr ⟨o, h _ _ s⟩)
  · exact .inr s
mutual
theorem Rep.mono (h : ∀ a o, G a = some o → G' a = some o) : ∀ {v : V} {d : D}, Rep K τ G v d → Rep K τ G' v d
  | _, _, .non => .non
  | _, _, .bl b => .bl b
  | _, _, .int i => .int i
  | _, _, .tup s r => .tup (sqT_mono h s) (Reps.mono h r)
  | _, _, .lst s r => .lst (h _ _ s) (Reps.mono h r)
  | _, _, .dic s => .dic (h _ _ s)
  | _, _, .tin s => .tin s
theorem Reps.mono (h : ∀ a o, G a = some o → G' a = some o) : ∀ {vs : List V} {ds : List D}, Reps K τ G vs ds → Reps K τ G' vs ds
  | _, _, .nil => .nil
  | _, _, .cons r t => .cons (Rep.mono h r) (Reps.mono h t)
end
theorem Reps.len : ∀ {vs : List V} {ds : List D}, Reps K τ G vs ds → vs.length = ds.length
  | _, _, .nil => rfl
  | _, _, .cons _ t => by rw [List.length_cons, List.length_cons, t.len]
theorem Reps.app : ∀ {vs : List V} {ds : List D}, Reps K τ G vs ds → Reps K τ G ws es → Reps K τ G (vs ++ ws) (ds ++ es)
  | _, _, .nil, s => s
  | _, _, .cons r t, s => .cons r (Reps.app t s)
theorem Reps.get : ∀ {vs : List V} {ds : List D} {i : Nat} {d : D}, Reps K τ G vs ds → ds[i]? = some d → ∃ v, vs[i]? = some v ∧ Rep K τ G v d
  | _, _, _, _, .nil, h => by simp at h
  | _, _, 0, d, .cons r t, h => by
    simp at h; subst h; exact ⟨_, by simp, r⟩
  | _, _, i + 1, d, .cons r t, h => by
    obtain ⟨v, e, r2⟩ := Reps.get (i := i) t (by simpa using h)
    exact ⟨v, by simpa using e, r2⟩
theorem Reps.get' : ∀ {vs : List V} {ds : List D} {i : Nat} {v : V}, Reps K τ G vs ds → vs[i]? = some v → ∃ d, ds[i]? = some d ∧ Rep K τ G v d
  | _, _, _, _, .nil, h => by simp at h
  | _, _, 0, d, .cons r t, h => by
    simp at h; subst h; exact ⟨_, by simp, r⟩
  | _, _, i + 1, d, .cons r t, h => by
    obtain ⟨v, e, r2⟩ := Reps.get' (i := i) t (by simpa using h)
    exact ⟨v, by simpa using e, r2⟩
theorem Reps.take : ∀ {vs : List V} {ds : List D} (n : Nat), Reps K τ G vs ds → Reps K τ G (vs.take n) (ds.take n)
  | _, _, 0, _ => by simpa using Reps.nil
  | _, _, _ + 1, .nil => by simpa using Reps.nil
  | _, _, n + 1, .cons r t => by simpa using Reps.cons r (Reps.take n t)
theorem Reps.drop : ∀ {vs : List V} {ds : List D} (n : Nat), Reps K τ G vs ds → Reps K τ G (vs.drop n) (ds.drop n)
  | _, _, 0, r => by simpa using r
  | _, _, _ + 1, .nil => by simpa using Reps.nil
  | _, _, n + 1, .cons _ t => by simpa using Reps.drop n t
theorem Reps.reverse : ∀ {vs : List V} {ds : List D}, Reps K τ G vs ds → Reps K τ G vs.reverse ds.reverse
  | _, _, .nil => by simpa using Reps.nil
  | _, _, .cons r t => by
    rw [List.reverse_cons, List.reverse_cons]
    exact (Reps.reverse t).app (.cons r .nil)
theorem Reps.set (r : Rep K τ G v d) : ∀ {vs : List V} {ds : List D} (i : Nat), Reps K τ G vs ds → Reps K τ G (vs.set i v) (ds.set i d)
  | _, _, _, .nil => by simpa using Reps.nil
  | _, _, 0, .cons _ t => by simpa using Reps.cons r t
  | _, _, i + 1, .cons q t => by simpa using Reps.cons q (Reps.set r i t)
theorem Reps.erase : ∀ {vs : List V} {ds : List D} (i : Nat), Reps K τ G vs ds → Reps K τ G (vs.eraseIdx i) (ds.eraseIdx i)
  | _, _, _, .nil => by simpa using Reps.nil
  | _, _, 0, .cons _ t => by simpa using t
  | _, _, i + 1, .cons q t => by simpa using Reps.cons q (Reps.erase i t)
theorem Reps.rep (r : Reps K τ G vs ds) : ∀ n : Nat, Reps K τ G (List.replicate n vs).flatten (List.replicate n ds).flatten
  | 0 => by simpa using Reps.nil
  | n + 1 => by
    rw [List.replicate_succ, List.replicate_succ, List.flatten_cons, List.flatten_cons]
    exact r.app (r.rep n)
theorem Reps.ints : ∀ {ns : List Int} {vs : List V}, Reps K τ G vs (ns.map D.int) → vs = ns.map V.int
  | [], _, h => by cases h; rfl
  | n :: ns, _, h => by
    cases h with
    | cons r t => cases r; rw [Reps.ints t, List.map_cons]
theorem Reps.bls : ∀ {ns : List Bool} {vs : List V}, Reps K τ G vs (ns.map D.bl) → vs = ns.map V.bl
  | [], _, h => by cases h; rfl
  | n :: ns, _, h => by
    cases h with
    | cons r t => cases r; rw [Reps.bls t, List.map_cons]

/-- the draws' object: three whole numbers, none below 0, the last one at most the count -/
def Tn (τ : Option Addr) (H : Hp) (c : Nat) : Prop := ∀ a, τ = some a → ∃ x y z : Int, H a = some (.lst [.int x, .int y, .int z]) ∧ 0 ≤ x ∧ 0 ≤ y ∧ y < 2 ^ 62 ∧ 0 ≤ z ∧ z ≤ c

/-- the ghost part stands -/
structure W0 (τ : Option Addr) (G H : Hp) (c : Nat) : Prop where
  le : ∀ a o, G a = some o → H a = some o
  tn : Tn τ H c
  tg : ∀ a, τ = some a → G a = none
/-- an object that is no tuple -/
def Wr (H : Hp) (a : Addr) : Prop := ∃ o, H a = some o ∧ ∀ xs, o ≠ .tup xs
theorem Wr.ne {a : Addr} (w : Wr H a) : H a ≠ none := by
  obtain ⟨o, h, _⟩ := w
  rw [h]; simp
theorem Wr.l {a : Addr} {vs : List V} (h : H a = some (.lst vs)) : Wr H a := ⟨_, h, fun _ z => by cases z⟩
theorem Wr.t {a : Addr} {vs : List (List L2.Key × V)} (h : H a = some (.dT vs)) : Wr H a := ⟨_, h, fun _ z => by cases z⟩
theorem Wr.tin {a : Addr} {c : Nat} (w : Tn τ H c) (h : τ = some a) : Wr H a := by
  obtain ⟨x, y, z, e, _⟩ := w a h
  exact .l e
/-- what a run keeps -/
structure Step (τ : Option Addr) (G H : Hp) (c : Nat) (G' H' : Hp) (c' : Nat) : Prop where
  gg : ∀ a o, G a = some o → G' a = some o
  gh : ∀ a o, G' a = some o → H' a = some o
  hh : ∀ a o, H a = some o → τ ≠ some a → H' a = some o
  gn : ∀ a, G a = none → Wr H a → G' a = none
  tn : Tn τ H' c'
theorem W0.tin_some {a : Addr} {c : Nat} (w : Tn τ H c) (h : τ = some a) : H a ≠ none := by
  obtain ⟨x, y, z, e, _⟩ := w a h
  rw [e]; simp
theorem W0.refl {c : Nat} (w : W0 τ G H c) : Step τ G H c G H c := ⟨fun _ _ h => h, w.le, fun _ _ h _ => h, fun _ h _ => h, w.tn⟩
theorem Step.w0 {c c' : Nat} (w : W0 τ G H c) (s : Step τ G H c G' H' c') : W0 τ G' H' c' :=
  ⟨s.gh, s.tn, fun a h => s.gn a (w.tg a h) (Wr.tin w.tn h)⟩
theorem Step.still {c c' : Nat} (s : Step τ G H c G' H' c') {a : Addr} (w : Tn τ H c) (h : H a ≠ none) : H' a ≠ none := by
  by_cases e : τ = some a
  · exact W0.tin_some s.tn e
  · cases q : H a with
    | none => exact absurd q h
    | some o => rw [s.hh a o q e]; simp
theorem Step.wr {c c' : Nat} (s : Step τ G H c G' H' c') {a : Addr} (h : Wr H a) : Wr H' a := by
  by_cases e : τ = some a
  · exact Wr.tin s.tn e
  · obtain ⟨o, q, n⟩ := h
    exact ⟨o, s.hh a o q e, n⟩
theorem Step.trans {G2 H2 : Hp} {c c' c2 : Nat} (w : W0 τ G H c) (s : Step τ G H c G' H' c') (t : Step τ G' H' c' G2 H2 c2) : Step τ G H c G2 H2 c2 :=
  ⟨fun a o h => t.gg a o (s.gg a o h), t.gh, fun a o h e => t.hh a o (s.hh a o h e) e, fun a h q => t.gn a (s.gn a h q) (s.wr q), t.tn⟩
/-- a new object, tracked and part of the ghost -/
theorem Step.laid {c : Nat} (w : W0 τ G H c) {p : Addr} {o : HO} (hp : H p = none) : Step τ G H c (upd G p o) (upd H p o) c := by
  have hg : G p = none := by
    cases q : G p with
    | none => rfl
    | some x => rw [w.le _ _ q] at hp; cases hp
  refine ⟨fun a x h => ?_, fun a x h => ?_, fun a x h _ => ?_, fun a h q => ?_, fun a h => ?_⟩
  · rw [upd_ne (ne_of_none h hg)]; exact h
  · by_cases e : a = p
    · subst e; rw [upd_same] at h ⊢; exact h
    · rw [upd_ne e] at h ⊢; exact w.le _ _ h
  · rw [upd_ne (ne_of_none h hp)]; exact h
  · by_cases e : a = p
    · subst e; exact absurd hp q.ne
    · rw [upd_ne e]; exact h
  · obtain ⟨x, y, z, e, r⟩ := w.tn a h
    exact ⟨x, y, z, by rw [upd_ne (ne_of_none e hp)]; exact e, r⟩
/-- a new object, tracked but not part of the ghost -/
theorem Step.laidF {c : Nat} (w : W0 τ G H c) {p : Addr} {o : HO} (hp : H p = none) : Step τ G H c G (upd H p o) c := by
  refine ⟨fun a x h => h, fun a x h => ?_, fun a x h _ => ?_, fun a h q => h, fun a h => ?_⟩
  · rw [upd_ne (ne_of_none (w.le _ _ h) hp)]; exact w.le _ _ h
  · rw [upd_ne (ne_of_none h hp)]; exact h
  · obtain ⟨x, y, z, e, r⟩ := w.tn a h
    exact ⟨x, y, z, by rw [upd_ne (ne_of_none e hp)]; exact e, r⟩
end

/-- a slot: nothing known, data, a list of one's own (to be written), a dict of one's own -/
inductive Sl where
  | no | va (d : D) | ow (l : List D) | od (l : List ((Int × Int) × Bool))
deriving Inhabited
def Sl.own : Sl → Bool
  | .ow _ => true
  | .od _ => true
  | _ => false
abbrev Rho := List Sl
structure EnvR (K : PySem.W.Frag) (τ : Option Addr) (H0 G H : Hp) (σ : L2.St) (ρ : Rho) : Prop where
  len : ρ.length = σ.length
  va : ∀ (i : Nat) (d : D), ρ[i]? = some (.va d) → ∃ v, σ[i]? = some (some v) ∧ Rep K τ G v d
  ow : ∀ (i : Nat) (l : List D), ρ[i]? = some (.ow l) → ∃ p vs, σ[i]? = some (some (.ref p)) ∧ H p = some (.lst vs) ∧ Reps K τ G vs l ∧ G p = none ∧ H0 p = none ∧ τ ≠ some p
  od : ∀ (i : Nat) (l : List ((Int × Int) × Bool)), ρ[i]? = some (.od l) → ∃ p, σ[i]? = some (some (.ref p)) ∧ H p = some (.dT (dKV l)) ∧ G p = none ∧ H0 p = none ∧ τ ≠ some p
  ap : ∀ (i j : Nat) (s t : Sl) (p : Addr), ρ[i]? = some s → ρ[j]? = some t → s.own = true → t.own = true → σ[i]? = some (some (.ref p)) → σ[j]? = some (some (.ref p)) → i = j
section
variable {K : PySem.W.Frag} {τ : Option Addr} {G G' H H' H0 : Hp} {σ : L2.St} {ρ : Rho} {c c' : Nat}
theorem EnvR.step (e : EnvR K τ H0 G H σ ρ) (s : Step τ G H c G' H' c') : EnvR K τ H0 G' H' σ ρ where
  len := e.len
  va := fun i d h => let ⟨v, a, r⟩ := e.va i d h; ⟨v, a, r.mono s.gg⟩
  ow := fun i l h => let ⟨p, vs, a, b, r, g, z, n⟩ := e.ow i l h; ⟨p, vs, a, s.hh _ _ b n, r.mono s.gg, s.gn p g (.l b), z, n⟩
  od := fun i l h => let ⟨p, a, b, g, z, n⟩ := e.od i l h; ⟨p, a, s.hh _ _ b n, s.gn p g (.t b), z, n⟩
  ap := e.ap
theorem getset {α : Type} {l : List α} {i j : Nat} {x y : α} (h : (l.set i x)[j]? = some y) : (j = i ∧ y = x) ∨ (j ≠ i ∧ l[j]? = some y) := by
  by_cases e : i = j
  · subst e
    by_cases hl : i < l.length
    · rw [List.getElem?_set_self hl] at h
      exact .inl ⟨rfl, (Option.some.inj h).symm⟩
    · rw [List.getElem?_eq_none (by simpa using hl)] at h; cases h
  · rw [List.getElem?_set_ne e] at h
    exact .inr ⟨fun q => e q.symm, h⟩
theorem EnvR.setva (e : EnvR K τ H0 G H σ ρ) {i : Nat} {v : V} {d : D} (r : Rep K τ G v d) : EnvR K τ H0 G H (σ.set i (some v)) (ρ.set i (.va d)) where
  len := by simpa using e.len
  va := fun j d' h => by
    rcases getset h with ⟨rfl, q⟩ | ⟨n, q⟩
    · cases q
      have hl : j < ρ.length := by
        have := (List.getElem?_eq_some_iff.mp h).1
        simpa using this
      exact ⟨v, by rw [List.getElem?_set_self (by rw [← e.len]; exact hl)], r⟩
    · obtain ⟨w, a, r'⟩ := e.va j d' q
      exact ⟨w, by rw [List.getElem?_set_ne (Ne.symm n)]; exact a, r'⟩
  ow := fun j l h => by
    rcases getset h with ⟨rfl, q⟩ | ⟨n, q⟩
    · cases q
    · obtain ⟨p, vs, a, r'⟩ := e.ow j l q
      exact ⟨p, vs, by rw [List.getElem?_set_ne (Ne.symm n)]; exact a, r'⟩
  od := fun j l h => by
    rcases getset h with ⟨rfl, q⟩ | ⟨n, q⟩
    · cases q
    · obtain ⟨p, a, r'⟩ := e.od j l q
      exact ⟨p, by rw [List.getElem?_set_ne (Ne.symm n)]; exact a, r'⟩
  ap := fun j k s t p h1 h2 o1 o2 a1 a2 => by
    rcases getset h1 with ⟨rfl, q⟩ | ⟨n1, q1⟩
    · subst q; cases o1
    · rcases getset h2 with ⟨rfl, q⟩ | ⟨n2, q2⟩
      · subst q; cases o2
      · rw [List.getElem?_set_ne (Ne.symm n1)] at a1
        rw [List.getElem?_set_ne (Ne.symm n2)] at a2
        exact e.ap j k s t p q1 q2 o1 o2 a1 a2
theorem EnvR.owned (e : EnvR K τ H0 G H σ ρ) {j : Nat} {s : Sl} (h : ρ[j]? = some s) (o : s.own = true) : ∃ p, σ[j]? = some (some (.ref p)) ∧ H p ≠ none ∧ G p = none ∧ H0 p = none ∧ τ ≠ some p := by
  cases s with
  | ow l => obtain ⟨p, vs, a, b, _, g, z, n⟩ := e.ow j l h; exact ⟨p, a, by rw [b]; simp, g, z, n⟩
  | od l => obtain ⟨p, a, b, g, z, n⟩ := e.od j l h; exact ⟨p, a, by rw [b]; simp, g, z, n⟩
  | no => cases o
  | va d => cases o
/-- a name takes a new object of its own: in the heap ahead of it (H1) the object was not there -/
theorem EnvR.setown {H1 : Hp} (e : EnvR K τ H0 G H1 σ ρ) (e2 : EnvR K τ H0 G' H' σ ρ) {i : Nat} {p : Addr} {s : Sl} (hp : H1 p = none) (hz : H0 p = none) (hn : τ ≠ some p) (hg : G' p = none) (so : s.own = true)
    (hs : (∃ l vs, s = .ow l ∧ H' p = some (.lst vs) ∧ Reps K τ G' vs l) ∨ (∃ l, s = .od l ∧ H' p = some (.dT (dKV l)))) : EnvR K τ H0 G' H' (σ.set i (some (.ref p))) (ρ.set i s) where
  len := by simpa using e.len
  va := fun j d' h => by
    rcases getset h with ⟨rfl, q⟩ | ⟨n, q⟩
    · rw [← q] at so; cases so
    · obtain ⟨w, a, r'⟩ := e2.va j d' q
      exact ⟨w, by rw [List.getElem?_set_ne (Ne.symm n)]; exact a, r'⟩
  ow := fun j l h => by
    rcases getset h with ⟨rfl, q⟩ | ⟨n, q⟩
    · have hl : j < ρ.length := by
        have := (List.getElem?_eq_some_iff.mp h).1
        simpa using this
      rcases hs with ⟨l', vs, q', a, r⟩ | ⟨l', q', a⟩
      · rw [q'] at q; cases q
        exact ⟨p, vs, by rw [List.getElem?_set_self (by rw [← e.len]; exact hl)], a, r, hg, hz, hn⟩
      · rw [q'] at q; cases q
    · obtain ⟨p, vs, a, r'⟩ := e2.ow j l q
      exact ⟨p, vs, by rw [List.getElem?_set_ne (Ne.symm n)]; exact a, r'⟩
  od := fun j l h => by
    rcases getset h with ⟨rfl, q⟩ | ⟨n, q⟩
    · have hl : j < ρ.length := by
        have := (List.getElem?_eq_some_iff.mp h).1
        simpa using this
      rcases hs with ⟨l', vs, q', a, r⟩ | ⟨l', q', a⟩
      · rw [q'] at q; cases q
      · rw [q'] at q; cases q
        exact ⟨p, by rw [List.getElem?_set_self (by rw [← e.len]; exact hl)], a, hg, hz, hn⟩
    · obtain ⟨p, a, r'⟩ := e2.od j l q
      exact ⟨p, by rw [List.getElem?_set_ne (Ne.symm n)]; exact a, r'⟩
  ap := fun j k s' t p' h1 h2 o1 o2 a1 a2 => by
    have old : ∀ m s'', m ≠ i → ρ[m]? = some s'' → s''.own = true → σ[m]? = some (some (.ref p)) → False := fun m s'' n q o a => by
      obtain ⟨p2, b, c2, _⟩ := e.owned q o
      rw [a] at b; cases b
      exact c2 hp
    rcases getset h1 with ⟨rfl, q⟩ | ⟨n1, q1⟩
    · rcases getset h2 with ⟨rfl, q⟩ | ⟨n2, q2⟩
      · rfl
      · rw [List.getElem?_set_ne (Ne.symm n2)] at a2
        have hl : j < σ.length := by
          have := (List.getElem?_eq_some_iff.mp h1).1
          rw [← e.len]; simpa using this
        rw [List.getElem?_set_self hl] at a1
        cases a1
        exact (old k t n2 q2 o2 a2).elim
    · rw [List.getElem?_set_ne (Ne.symm n1)] at a1
      rcases getset h2 with ⟨rfl, q⟩ | ⟨n2, q2⟩
      · have hl : k < σ.length := by
          have := (List.getElem?_eq_some_iff.mp h2).1
          rw [← e.len]; simpa using this
        rw [List.getElem?_set_self hl] at a2
        cases a2
        exact (old j s' n1 q1 o1 a1).elim
      · rw [List.getElem?_set_ne (Ne.symm n2)] at a2
        exact e.ap j k s' t p' q1 q2 o1 o2 a1 a2
/-- an own list is written -/
theorem EnvR.write (e : EnvR K τ H0 G H σ ρ) {i : Nat} {p : Addr} {s0 : Sl} (h : ρ[i]? = some s0) (o0 : s0.own = true) (hs : σ[i]? = some (some (.ref p))) {s : Sl} {o : HO} (so : s.own = true)
    (hn : (∃ l vs, s = .ow l ∧ o = .lst vs ∧ Reps K τ G vs l) ∨ (∃ l, s = .od l ∧ o = .dT (dKV l))) : EnvR K τ H0 G (upd H p o) σ (ρ.set i s) := by
  obtain ⟨p', a', hp', hg, hz, hn'⟩ := e.owned h o0
  rw [hs] at a'; cases a'
  have hil : i < ρ.length := (List.getElem?_eq_some_iff.mp h).1
  refine ⟨by simpa using e.len, fun j d' hh => ?_, fun j l hh => ?_, fun j l hh => ?_, fun j k s' t p' h1 h2 o1 o2 a1 a2 => ?_⟩
  · rcases getset hh with ⟨rfl, q⟩ | ⟨n, q⟩
    · rw [← q] at so; cases so
    · exact e.va j d' q
  · rcases getset hh with ⟨rfl, q⟩ | ⟨n, q⟩
    · rcases hn with ⟨l', vs, q', rfl, r⟩ | ⟨l', q', rfl⟩
      · rw [q'] at q; cases q
        exact ⟨p, vs, hs, upd_same, r, hg, hz, hn'⟩
      · rw [q'] at q; cases q
    · obtain ⟨p2, vs, a, b, r'⟩ := e.ow j l q
      refine ⟨p2, vs, a, ?_, r'⟩
      rw [upd_ne ?_]; exact b
      rintro rfl
      exact n (e.ap j i _ _ p2 q h rfl o0 a hs)
  · rcases getset hh with ⟨rfl, q⟩ | ⟨n, q⟩
    · rcases hn with ⟨l', vs, q', rfl, r⟩ | ⟨l', q', rfl⟩
      · rw [q'] at q; cases q
      · rw [q'] at q; cases q
        exact ⟨p, hs, upd_same, hg, hz, hn'⟩
    · obtain ⟨p2, a, b, r'⟩ := e.od j l q
      refine ⟨p2, a, ?_, r'⟩
      rw [upd_ne ?_]; exact b
      rintro rfl
      exact n (e.ap j i _ _ p2 q h rfl o0 a hs)
  · rcases getset h1 with ⟨rfl, q⟩ | ⟨n1, q1⟩
    · rcases getset h2 with ⟨rfl, q⟩ | ⟨n2, q2⟩
      · rfl
      · exact e.ap _ _ _ _ p' h q2 o0 o2 a1 a2
    · rcases getset h2 with ⟨rfl, q⟩ | ⟨n2, q2⟩
      · exact e.ap _ _ _ _ p' q1 h o1 o0 a1 a2
      · exact e.ap _ _ _ _ p' q1 q2 o1 o2 a1 a2
/-- what the entry kept is kept behind a write of an own list -/
theorem Step.write {G0 : Hp} {c0 : Nat} (s : Step τ G0 H0 c0 G H c) {p : Addr} {o : HO} (hg : G p = none) (hz : H0 p = none) (hn : τ ≠ some p) : Step τ G0 H0 c0 G (upd H p o) c where
  gg := s.gg
  gh := fun a x h => by
    rw [upd_ne (ne_of_none h hg)]; exact s.gh a x h
  hh := fun a x h e => by
    rw [upd_ne (ne_of_none h hz)]; exact s.hh a x h e
  gn := s.gn
  tn := fun a h => by
    obtain ⟨x, y, z, e, r⟩ := s.tn a h
    refine ⟨x, y, z, ?_, r⟩
    rw [upd_ne ?_]; exact e
    rintro rfl; exact hn h
/-- slots forgotten -/
@[simp] def forgetR (ρ : Rho) : List Nat → Rho
  | [] => ρ
  | v :: vs => (forgetR ρ vs).set v .no
theorem EnvR.forget1 (e : EnvR K τ H0 G H σ ρ) (i : Nat) : EnvR K τ H0 G H (σ.set i none) (ρ.set i .no) where
  len := by simpa using e.len
  va := fun j d' h => by
    rcases getset h with ⟨rfl, q⟩ | ⟨n, q⟩
    · cases q
    · obtain ⟨w, a, r'⟩ := e.va j d' q
      exact ⟨w, by rw [List.getElem?_set_ne (Ne.symm n)]; exact a, r'⟩
  ow := fun j l h => by
    rcases getset h with ⟨rfl, q⟩ | ⟨n, q⟩
    · cases q
    · obtain ⟨p, vs, a, r'⟩ := e.ow j l q
      exact ⟨p, vs, by rw [List.getElem?_set_ne (Ne.symm n)]; exact a, r'⟩
  od := fun j l h => by
    rcases getset h with ⟨rfl, q⟩ | ⟨n, q⟩
    · cases q
    · obtain ⟨p, a, r'⟩ := e.od j l q
      exact ⟨p, by rw [List.getElem?_set_ne (Ne.symm n)]; exact a, r'⟩
  ap := fun j k s t p h1 h2 o1 o2 a1 a2 => by
    rcases getset h1 with ⟨rfl, q⟩ | ⟨n1, q1⟩
    · subst q; cases o1
    · rcases getset h2 with ⟨rfl, q⟩ | ⟨n2, q2⟩
      · subst q; cases o2
      · rw [List.getElem?_set_ne (Ne.symm n1)] at a1
        rw [List.getElem?_set_ne (Ne.symm n2)] at a2
        exact e.ap j k s t p q1 q2 o1 o2 a1 a2
theorem EnvR.forget (e : EnvR K τ H0 G H σ ρ) : ∀ vs : List Nat, EnvR K τ H0 G H (wipe σ vs) (forgetR ρ vs)
  | [] => e
  | v :: vs => (e.forget vs).forget1 v
end
end Pd
end
section
set_option Elab.async false
set_option linter.all false
set_option maxRecDepth 100000
/-! PD1: readings over data; expressions. -/
namespace Pd
open PySem PySem.Spec PyProof.Rows L2

abbrev TD := Rho → Nat → (D → Nat → Prop) → Prop
abbrev TTD := Rho → Nat → (Bool → Nat → Prop) → Prop
abbrev TAD := Rho → Nat → (List D → Nat → Prop) → Prop
abbrev RR := PySem.W.Frag → Option Addr → Hp → Hp → Hp → V → D → Prop
def RP : RR := fun K τ _ G' _ v d => Rep K τ G' v d
def RB : RR := fun K τ _ G' H' v d => Rep K τ G' v d ∨ ∃ p vs ds, v = .ref p ∧ d = .lst ds ∧ H' p = some (.lst vs) ∧ Reps K τ G' vs ds ∧ τ ≠ some p
def RF : RR := fun K τ H G' H' v d => ∃ p vs ds, v = .ref p ∧ d = .lst ds ∧ H' p = some (.lst vs) ∧ Reps K τ G' vs ds ∧ G' p = none ∧ H p = none ∧ τ ≠ some p
def upE (R : RR) (K : PySem.W.Frag) (t : TD) : TE := fun σ H Q => ∃ (τ : Option Addr) (H0 G : Hp) (ρ : Rho) (c : Nat) (P : D → Nat → Prop), W0 τ G H c ∧ EnvR K τ H0 G H σ ρ ∧ t ρ c P ∧
  ∀ d c' v G' H', P d c' → Step τ G H c G' H' c' → R K τ H G' H' v d → Q v H'
def upT (K : PySem.W.Frag) (t : TTD) : TT := fun σ H Q => ∃ (τ : Option Addr) (H0 G : Hp) (ρ : Rho) (c : Nat) (P : Bool → Nat → Prop), W0 τ G H c ∧ EnvR K τ H0 G H σ ρ ∧ t ρ c P ∧
  ∀ b c' G' H', P b c' → Step τ G H c G' H' c' → Q b H'
inductive RL (R : RR) (K : PySem.W.Frag) (τ : Option Addr) (H G' H' : Hp) : List V → List D → Prop
  | nil : RL R K τ H G' H' [] []
  | cons {v : V} {vs : List V} {d : D} {ds : List D} : R K τ H G' H' v d → RL R K τ H G' H' vs ds → RL R K τ H G' H' (v :: vs) (d :: ds)
def upA (R : RR) (K : PySem.W.Frag) (t : TAD) : TA := fun σ H Q => ∃ (τ : Option Addr) (H0 G : Hp) (ρ : Rho) (c : Nat) (P : List D → Nat → Prop), W0 τ G H c ∧ EnvR K τ H0 G H σ ρ ∧ t ρ c P ∧
  ∀ ds c' vs G' H', P ds c' → Step τ G H c G' H' c' → RL R K τ H G' H' vs ds → Q vs H'
abbrev PP (X : Cx) (e : Expr) (t : TD) : Prop := PE X e (upE RP X.K t)
abbrev PB (X : Cx) (e : Expr) (t : TD) : Prop := PE X e (upE RB X.K t)
abbrev PF (X : Cx) (e : Expr) (t : TD) : Prop := PE X e (upE RF X.K t)
abbrev PTD (X : Cx) (e : Expr) (t : TTD) : Prop := PT X e (upT X.K t)
abbrev PWD (X : Cx) (e : Expr) (t : TTD) : Prop := PW X e (upT X.K t)
abbrev PAD (X : Cx) (es : List Expr) (t : TAD) : Prop := PA X es (upA RP X.K t)
abbrev PAB (X : Cx) (es : List Expr) (t : TAD) : Prop := PA X es (upA RB X.K t)

section
variable {X : Cx} {e a b : Expr} {es : List Expr} {pos : Pos}
theorem pe_imp {t t' : TE} (h : PE X e t) (i : ∀ σ H Q, t' σ H Q → t σ H Q) : PE X e t' := ⟨fun pins s σ H Q I hw => h.run pins s σ H Q I (i σ H Q hw)⟩
theorem pt_imp {t t' : TT} (h : PT X e t) (i : ∀ σ H Q, t' σ H Q → t σ H Q) : PT X e t' := ⟨fun pins s σ H Q I hw => h.run pins s σ H Q I (i σ H Q hw)⟩
theorem pw_imp {t t' : TT} (h : PW X e t) (i : ∀ σ H Q, t' σ H Q → t σ H Q) : PW X e t' := ⟨fun wh pins s σ H Q I hw => h.run wh pins s σ H Q I (i σ H Q hw)⟩
theorem pa_imp {t t' : TA} (h : PA X es t) (i : ∀ σ H Q, t' σ H Q → t σ H Q) : PA X es t' := ⟨fun ps pins s σ H Q I hw => h.run ps pins s σ H Q I (i σ H Q hw)⟩
structure Stab (R : RR) : Prop where
  st : ∀ {K τ Hs G H c G' H' c' v d}, R K τ Hs G H v d → Step τ G H c G' H' c' → R K τ Hs G' H' v d
structure Back (R : RR) : Prop where
  bk : ∀ {K τ G H c G2 H2 c2 G' H' v d}, W0 τ G H c → Step τ G H c G2 H2 c2 → R K τ H2 G' H' v d → R K τ H G' H' v d
theorem stP : Stab RP := ⟨fun r s => r.mono s.gg⟩
theorem stB : Stab RB := ⟨fun r s => by
  rcases r with r | ⟨p, vs, ds, e1, e2, h, r, n⟩
  · exact .inl (r.mono s.gg)
  · exact .inr ⟨p, vs, ds, e1, e2, s.hh _ _ h n, r.mono s.gg, n⟩⟩
theorem bkP : Back RP := ⟨fun _ _ r => r⟩
theorem bkB : Back RB := ⟨fun _ _ r => r⟩
theorem bkF : Back RF := ⟨fun w s r => by
  obtain ⟨p, vs, ds, e1, e2, h, r, g, hp, n⟩ := r
  refine ⟨p, vs, ds, e1, e2, h, r, g, ?_, n⟩
  exact Classical.byContradiction fun q => s.still w.tn q hp⟩
theorem RL.st {R : RR} (z : Stab R) {K τ Hs G H c G' H' c'} (s : Step τ G H c G' H' c') : ∀ {vs ds}, RL R K τ Hs G H vs ds → RL R K τ Hs G' H' vs ds
  | _, _, .nil => .nil
  | _, _, .cons r t => .cons (z.st r s) (RL.st z s t)
theorem RL.reps {K τ Hs G H} : ∀ {vs ds}, RL RP K τ Hs G H vs ds → Reps K τ G vs ds
  | _, _, .nil => .nil
  | _, _, .cons r t => .cons r t.reps

/-! coercions -/
theorem pb_of {t : TD} (h : PP X e t) : PB X e t := pe_imp h fun σ H Q ⟨τ, H0, G, ρ, c, P, w, en, ht, q⟩ => ⟨τ, H0, G, ρ, c, P, w, en, ht, fun d c' v G' H' p s r => q d c' v G' H' p s (.inl r)⟩
theorem pp_of {t : TD} (h : PF X e t) : PP X e t := pe_imp h fun σ H Q ⟨τ, H0, G, ρ, c, P, w, en, ht, q⟩ => ⟨τ, H0, G, ρ, c, P, w, en, ht, fun d c' v G' H' p s r => by
  obtain ⟨a, vs, ds, rfl, rfl, ha, r, g, hp, n⟩ := r
  have m : ∀ b o, G' b = some o → upd G' a (.lst vs) b = some o := fun b o h => by rw [upd_ne (ne_of_none h g)]; exact h
  refine q _ c' _ (upd G' a (.lst vs)) H' p ⟨fun b o h => m b o (s.gg b o h), fun b o h => ?_, s.hh, fun b h k => ?_, s.tn⟩ (.lst upd_same (r.mono m))
  · by_cases z : b = a
    · subst z; rw [upd_same] at h; rw [← h]; exact ha
    · rw [upd_ne z] at h; exact s.gh b o h
  · rw [upd_ne (fun z => k.ne (by rw [z]; exact hp))]; exact s.gn b h k⟩

/-! names, constants -/
@[simp] def dVar (i : Nat) : TD := fun ρ c Q => ∃ d, ρ[i]? = some (.va d) ∧ Q d c
@[simp] def dOwn (i : Nat) : TD := fun ρ c Q => ∃ l, ρ[i]? = some (.ow l) ∧ Q (.lst l) c
@[simp] def dC (d : D) : TD := fun _ c Q => Q d c
theorem ppd_var {i : Nat} (h : PE X e (tVar i)) : PP X e (dVar i) := pe_imp h fun σ H Q ⟨τ, H0, G, ρ, c, P, w, en, ⟨d, hd, p⟩, q⟩ => by
  obtain ⟨v, a, r⟩ := en.va i d hd
  exact ⟨v, a, q d c v G H p w.refl r⟩
theorem pbd_own {i : Nat} (h : PE X e (tVar i)) : PB X e (dOwn i) := pe_imp h fun σ H Q ⟨τ, H0, G, ρ, c, P, w, en, ⟨l, hd, p⟩, q⟩ => by
  obtain ⟨a, vs, hs, ha, r, g, z, n⟩ := en.ow i l hd
  exact ⟨_, hs, q _ c _ G H p w.refl (.inr ⟨a, vs, l, rfl, rfl, ha, r, n⟩)⟩
theorem ppd_const {v : V} {d : D} (h : PE X e (tC v)) (r : ∀ τ G, Rep X.K τ G v d) : PP X e (dC d) := pe_imp h fun σ H Q ⟨τ, H0, G, ρ, c, P, w, en, p, q⟩ => q d c v G H p w.refl (r τ G)
theorem ppd_int {i : Int} {j p} : PP X (.Constant (.int i) j p) (dC (.int i)) := ppd_const pe_int fun _ _ => .int i
theorem ppd_bl {i : Bool} {j p} : PP X (.Constant (.bool i) j p) (dC (.bl i)) := ppd_const pe_bl fun _ _ => .bl i
theorem ppd_non {j p} : PP X (.Constant .none j p) (dC .non) := ppd_const pe_non fun _ _ => .non
theorem ppd_globT {x : Str} {a : Addr} {vs : List V} {ds : List D} {p : Pos} (hg : Gl X x) (hm : X.mg x = some (.ref a)) (s : ∀ H, SqT X.K H a vs) (r : ∀ τ G, Reps X.K τ G vs ds) (hd : (x == ("__debug__" : Str)) = false := by decide) : PP X (.Name x p) (dC (.tup ds)) :=
  ppd_const (pe_glob (v := .ref a) hg hm rfl hd) fun τ G => .tup (s G) (r τ G)

/-! arguments -/
@[simp] def dNil : TAD := fun _ c Q => Q [] c
@[simp] def dCons (ta : TD) (tr : TAD) : TAD := fun ρ c Q => ta ρ c fun x c1 => tr ρ c1 fun xs c2 => Q (x :: xs) c2
theorem pa_nilR {R : RR} : PA X [] (upA R X.K dNil) := pa_imp pa_nil fun σ H Q ⟨τ, H0, G, ρ, c, P, w, en, p, q⟩ => q [] c [] G H p w.refl .nil
theorem pa_consR {R : RR} {ta : TD} {tr : TAD} (z : Stab R) (zb : Back R) (ha : PE X a (upE R X.K ta)) (hr : PA X es (upA R X.K tr)) (hs : starEach (a :: es) X.env = (false, eval a X.env) :: starEach es X.env) : PA X (a :: es) (upA R X.K (dCons ta tr)) :=
  pa_imp (pa_cons ha hr hs) fun σ H Q ⟨τ, H0, G, ρ, c, P, w, en, p, q⟩ => ⟨τ, H0, G, ρ, c, _, w, en, p, fun d c1 v G1 H1 p1 s1 r1 =>
    ⟨τ, H0, G1, ρ, c1, _, s1.w0 w, en.step s1, p1, fun ds c2 vs G2 H2 p2 s2 r2 => q (d :: ds) c2 (v :: vs) G2 H2 p2 (s1.trans w s2) (.cons (z.st r1 s2) (by
      clear p2
      induction r2 with
      | nil => exact .nil
      | cons r t ih => exact .cons (zb.bk w s1 r) ih))⟩⟩
theorem pad_nil : PAD X [] dNil := pa_nilR
theorem pad_cons {ta : TD} {tr : TAD} (ha : PP X a ta) (hr : PAD X es tr) (hs : starEach (a :: es) X.env = (false, eval a X.env) :: starEach es X.env := by rfl) : PAD X (a :: es) (dCons ta tr) := pa_consR stP bkP ha hr hs
theorem pab_nil : PAB X [] dNil := pa_nilR
theorem pab_cons {ta : TD} {tr : TAD} (ha : PB X a ta) (hr : PAB X es tr) (hs : starEach (a :: es) X.env = (false, eval a X.env) :: starEach es X.env := by rfl) : PAB X (a :: es) (dCons ta tr) := pa_consR stB bkB ha hr hs

/-! displays -/
@[simp] def dTup (t : TAD) : TD := fun ρ c Q => t ρ c fun ds c1 => ds.length ≤ 1000000 ∧ Q (.tup ds) c1
@[simp] def dLst (t : TAD) : TD := fun ρ c Q => t ρ c fun ds c1 => ds.length ≤ 1000000 ∧ Q (.lst ds) c1
theorem big_le {n : Nat} (h : n ≤ 1000000) : n ≤ sizeLine := by rw [sizeLine_eq]; omega
theorem big_lt {n : Nat} (h : n ≤ 1000000) : n < sizeLine := by rw [sizeLine_eq]; omega
theorem rep_new {K τ G} {p : Addr} {o : HO} {vs ds} (hg : G p = none) (r : Reps K τ G vs ds) : Reps K τ (upd G p o) vs ds := r.mono fun b x h => by rw [upd_ne (ne_of_none h hg)]; exact h
theorem g_none {τ G H c} {p : Addr} (w : W0 τ G H c) (h : H p = none) : G p = none := by
  cases q : G p with
  | none => rfl
  | some x => rw [w.le _ _ q] at h; cases h
theorem t_ne {τ H c} {p : Addr} (w : Tn τ H c) (h : H p = none) : τ ≠ some p := fun e => by
  obtain ⟨x, y, z, a, _⟩ := w p e
  rw [h] at a; cases a
theorem ppd_tup {t : TAD} {x1} (h : PAD X es t) : PP X (.Tuple es x1 pos) (dTup t) := pe_imp (pe_tup h) fun σ H Q ⟨τ, H0, G, ρ, c, P, w, en, p, q⟩ => ⟨τ, H0, G, ρ, c, _, w, en, p, fun ds c1 vs G1 H1 p1 s1 r1 =>
  ⟨by rw [r1.reps.len]; exact big_le p1.1, fun a ha => q _ c1 _ _ _ p1.2 (s1.trans w (.laid (s1.w0 w) ha)) (.tup (.inl (.inl upd_same)) (rep_new (g_none (s1.w0 w) ha) r1.reps))⟩⟩
theorem pfd_lst {t : TAD} (h : PAD X es t) : PF X (.List es pos) (dLst t) := pe_imp (pe_lst h) fun σ H Q ⟨τ, H0, G, ρ, c, P, w, en, p, q⟩ => ⟨τ, H0, G, ρ, c, _, w, en, p, fun ds c1 vs G1 H1 p1 s1 r1 =>
  ⟨by rw [r1.reps.len]; exact big_le p1.1, fun a ha => q _ c1 _ _ _ p1.2 (s1.trans w (.laidF (s1.w0 w) ha)) ⟨a, vs, ds, rfl, rfl, upd_same, r1.reps, g_none (s1.w0 w) ha, Classical.byContradiction fun k => s1.still w.tn k ha, t_ne s1.tn ha⟩⟩⟩

/-! two operands, by values -/
@[simp] def dBin (f : D → D → (D → Prop) → Prop) (ta tb : TD) : TD := fun ρ c Q => ta ρ c fun x c1 => tb ρ c1 fun y c2 => f x y fun d => Q d c2
/-- what an operator's rule asks, from data -/
def FR (Ra Rb R : RR) (K : PySem.W.Frag) (f : D → D → (D → Prop) → Prop) (r : R2) : Prop :=
  ∀ (τ : Option Addr) (Ha Hb G H : Hp) (c : Nat) (v w : V) (x y : D) (P : D → Prop) (Q : VK), W0 τ G H c → Ra K τ Ha G H v x → Rb K τ Hb G H w y → f x y P →
    (∀ d u G' H', P d → Step τ G H c G' H' c → R K τ H G' H' u d → Q u H') → r v w H Q
theorem up_bin {Ra Rb R : RR} {f : D → D → (D → Prop) → Prop} {r : R2} {ta tb : TD} (z : Stab Ra) (zb : Back R) (hf : FR Ra Rb R X.K f r) (h : PE X e (tOp r (upE Ra X.K ta) (upE Rb X.K tb))) : PE X e (upE R X.K (dBin f ta tb)) :=
  pe_imp h fun σ H Q ⟨τ, H0, G, ρ, c, P, w, en, p, q⟩ => ⟨τ, H0, G, ρ, c, _, w, en, p, fun x c1 v G1 H1 p1 s1 r1 =>
    ⟨τ, H0, G1, ρ, c1, _, s1.w0 w, en.step s1, p1, fun y c2 u G2 H2 p2 s2 r2 =>
      hf τ H H1 G2 H2 c2 v u x y _ Q ((s1.trans w s2).w0 w) (z.st r1 s2) r2 p2 fun d u' G' H' p3 s3 r3 => q d c2 u' G' H' p3 ((s1.trans w s2).trans w s3) (zb.bk w (s1.trans w s2) r3)⟩⟩
@[simp] def dUn (f : D → (D → Prop) → Prop) (ta : TD) : TD := fun ρ c Q => ta ρ c fun x c1 => f x fun d => Q d c1
theorem up_un {Ra R : RR} {f : D → (D → Prop) → Prop} {r : V → Hp → VK → Prop} {ta : TD} (zb : Back R)
    (hf : ∀ (τ : Option Addr) (Ha G H : Hp) (c : Nat) (v : V) (x : D) (P : D → Prop) (Q : VK), W0 τ G H c → Ra X.K τ Ha G H v x → f x P → (∀ d u G' H', P d → Step τ G H c G' H' c → R X.K τ H G' H' u d → Q u H') → r v H Q)
    (h : PE X e (tUn r (upE Ra X.K ta))) : PE X e (upE R X.K (dUn f ta)) :=
  pe_imp h fun σ H Q ⟨τ, H0, G, ρ, c, P, w, en, p, q⟩ => ⟨τ, H0, G, ρ, c, _, w, en, p, fun x c1 v G1 H1 p1 s1 r1 =>
    hf τ H G1 H1 c1 v x _ Q (s1.w0 w) r1 p1 fun d u' G' H' p3 s3 r3 => q d c1 u' G' H' p3 (s1.trans w s3) (zb.bk w s1 r3)⟩
end

/-! arithmetic -/
section
variable {X : Cx} {e a b : Expr} {es : List Expr} {pos : Pos} {ta tb : TD}
@[simp] def addD (x y : D) (Q : D → Prop) : Prop := match x, y with
  | .int i, .int j => Q (.int (i + j))
  | .tup a, .tup b => a.length + b.length ≤ 1000000 ∧ Q (.tup (a ++ b))
  | .lst a, .lst b => a.length + b.length ≤ 1000000 ∧ Q (.lst (a ++ b))
  | _, _ => False
@[simp] def subD (x y : D) (Q : D → Prop) : Prop := match x, y with
  | .int i, .int j => Q (.int (i - j))
  | _, _ => False
@[simp] def mulD (x y : D) (Q : D → Prop) : Prop := match x, y with
  | .int i, .int j => CMulW i j ∧ Q (.int (i * j))
  | _, _ => False
/-- // by a divisor that is not 0, of at most 9000 bits -/
def CDivB (_ j : Int) : Prop := j ≠ 0 ∧ j.natAbs.log2 < 9000
@[simp] def fdivD (x y : D) (Q : D → Prop) : Prop := match x, y with
  | .int i, .int j => CDivB i j ∧ Q (.int (i.fdiv j))
  | _, _ => False
@[simp] def modD (x y : D) (Q : D → Prop) : Prop := match x, y with
  | .int i, .int j => j ≠ 0 ∧ Q (.int (i.fmod j))
  | _, _ => False
theorem op_fdivB : OpR X (binaryOp .FloorDiv) (rI CDivB fun i j => .int (i.fdiv j)) := opI fun i j _ _ _ _ _ hc q =>
  floordiv_int hc.1 q (.inl (PyProof.noPylong_of_log2 hc.2))
def orR (r r' : R2) : R2 := fun x y H Q => r x y H Q ∨ r' x y H Q
theorem orOp {f : Value → Value → Sem Value} {r r' : R2} (h : OpR X f r) (h' : OpR X f r') : OpR X f (orR r r') := h.or h'
theorem cut_app {α : Type} : ([] : List α) ++ [] = [] := rfl
theorem ppd_add (ha : PB X a ta) (hb : PB X b tb) : PP X (.BinOp a .Add b pos) (dBin addD ta tb) := by
  refine up_bin stB bkP ?_ (pe_op (orOp op_add (orOp op_catA op_cat)) ha hb)
  intro τ Ha Hb G H c v w x y P Q w0 r1 r2 hf q
  have LL : ∀ {v : V} {l : List D} {Hs}, RB X.K τ Hs G H v (.lst l) → ∃ p vs, v = .ref p ∧ H p = some (.lst vs) ∧ Reps X.K τ G vs l := fun {v l Hs} r => by
    rcases r with r | ⟨p, vs, ds, e1, e2, h, r, n⟩
    · cases r with
      | lst h r => exact ⟨_, _, rfl, w0.le _ _ h, r⟩
    · cases e2; exact ⟨p, vs, e1, h, r⟩
  have TT : ∀ {v : V} {l : List D} {Hs}, RB X.K τ Hs G H v (.tup l) → ∃ p vs, v = .ref p ∧ SqT X.K G p vs ∧ Reps X.K τ G vs l := fun {v l Hs} r => by
    rcases r with r | ⟨p, vs, ds, e1, e2, h, r, n⟩
    · cases r with
      | tup h r => exact ⟨_, _, rfl, h, r⟩
    · cases e2
  have II : ∀ {v : V} {i : Int} {Hs}, RB X.K τ Hs G H v (.int i) → v = .int i := fun {v l Hs} r => by
    rcases r with r | ⟨p, vs, ds, e1, e2, h, r, n⟩
    · cases r; rfl
    · cases e2
  unfold addD at hf
  split at hf
  · rw [II r1, II r2]
    exact .inl ⟨_, _, rfl, rfl, q _ _ G H hf w0.refl (.int _)⟩
  · obtain ⟨p1, vs1, rfl, h1, q1⟩ := TT r1
    obtain ⟨p2, vs2, rfl, h2, q2⟩ := TT r2
    refine .inr (.inl ⟨p1, p2, vs1, vs2, rfl, rfl, sqT_mono w0.le h1, sqT_mono w0.le h2, ?_, ?_, ?_, ?_⟩)
    · rw [q1.len, q2.len]; exact big_le hf.1
    · intro e
      subst e
      cases q1
      exact q _ _ G H hf.2 w0.refl (.tup h2 q2)
    · intro _ e
      subst e
      cases q2
      refine q _ _ G H hf.2 w0.refl ?_
      rw [List.append_nil]
      exact .tup h1 q1
    · intro _ _ p hp
      exact q _ _ _ _ hf.2 (.laid w0 hp) (.tup (.inl (.inl upd_same)) (rep_new (g_none w0 hp) (q1.app q2)))
  · obtain ⟨p1, vs1, rfl, h1, q1⟩ := LL r1
    obtain ⟨p2, vs2, rfl, h2, q2⟩ := LL r2
    refine .inr (.inr ⟨p1, p2, vs1, vs2, rfl, rfl, h1, h2, ?_, fun p hp => ?_⟩)
    · rw [q1.len, q2.len]; exact big_le hf.1
    · exact q _ _ _ _ hf.2 (.laid w0 hp) (.lst upd_same (rep_new (g_none w0 hp) (q1.app q2)))
  · exact hf.elim
/-- two whole numbers -/
theorem fr_int {r : R2} {f : D → D → (D → Prop) → Prop} (h : ∀ x y P, f x y P → ∃ i j k, x = .int i ∧ y = .int j ∧ P (.int k) ∧ ∀ H (Q : VK), Q (.int k) H → r (.int i) (.int j) H Q) : FR RP RP RP X.K f r := by
  intro τ Ha Hb G H c v w x y P Q w0 r1 r2 hf q
  obtain ⟨i, j, k, rfl, rfl, p, hr⟩ := h x y P hf
  cases r1; cases r2
  exact hr H Q (q _ _ G H p w0.refl (.int _))
theorem ppd_sub (ha : PP X a ta) (hb : PP X b tb) : PP X (.BinOp a .Sub b pos) (dBin subD ta tb) := by
  refine up_bin stP bkP (fr_int fun x y P h => ?_) (pe_op op_sub ha hb)
  unfold subD at h
  split at h
  · exact ⟨_, _, _, rfl, rfl, h, fun H Q q => ⟨_, _, rfl, rfl, q⟩⟩
  · exact h.elim
theorem ppd_mul (ha : PP X a ta) (hb : PP X b tb) : PP X (.BinOp a .Mult b pos) (dBin mulD ta tb) := by
  refine up_bin stP bkP (fr_int fun x y P h => ?_) (pe_op op_mulW ha hb)
  unfold mulD at h
  split at h
  · exact ⟨_, _, _, rfl, rfl, h.2, fun H Q q => ⟨_, _, rfl, rfl, h.1, q⟩⟩
  · exact h.elim
theorem ppd_fdiv (ha : PP X a ta) (hb : PP X b tb) : PP X (.BinOp a .FloorDiv b pos) (dBin fdivD ta tb) := by
  refine up_bin stP bkP (fr_int fun x y P h => ?_) (pe_op op_fdivB ha hb)
  unfold fdivD at h
  split at h
  · exact ⟨_, _, _, rfl, rfl, h.2, fun H Q q => ⟨_, _, rfl, rfl, h.1, q⟩⟩
  · exact h.elim
theorem ppd_mod (ha : PP X a ta) (hb : PP X b tb) : PP X (.BinOp a .Mod b pos) (dBin modD ta tb) := by
  refine up_bin stP bkP (fr_int fun x y P h => ?_) (pe_op op_modN ha hb)
  unfold modD at h
  split at h
  · exact ⟨_, _, _, rfl, rfl, h.2, fun H Q q => ⟨_, _, rfl, rfl, h.1, q⟩⟩
  · exact h.elim
@[simp] def negD (x : D) (Q : D → Prop) : Prop := match x with
  | .int i => Q (.int (-i))
  | _ => False
theorem ppd_neg (ha : PP X a ta) : PP X (.UnaryOp .USub a pos) (dUn negD ta) := by
  refine up_un bkP ?_ (pe_un un_neg ha)
  intro τ Ha G H c v x P Q w0 r1 hf q
  unfold negD at hf
  split at hf
  · cases r1
    exact ⟨_, rfl, q _ _ G H hf w0.refl (.int _)⟩
  · exact hf.elim
end

/-! comparisons -/
mutual
def D.py : D → PyData
  | .non => .none
  | .bl b => .bool b
  | .int i => .int i
  | .tup l => .tuple (D.pys l)
  | .lst l => .list (D.pys l)
  | .dic _ => .none
  | .tin => .none
def D.pys : List D → List PyData
  | [] => []
  | d :: l => d.py :: D.pys l
end
mutual
/-- data without a dict, without the draws, at most so deep -/
def D.fine : Nat → D → Bool
  | _, .non => true
  | _, .bl _ => true
  | _, .int _ => true
  | 0, .tup _ => false
  | 0, .lst _ => false
  | n + 1, .tup l => D.fines n l
  | n + 1, .lst l => D.fines n l
  | _, .dic _ => false
  | _, .tin => false
def D.fines : Nat → List D → Bool
  | _, [] => true
  | n, d :: l => D.fine n d && D.fines n l
end
end Pd
end
section
set_option Elab.async false
set_option linter.all false
set_option maxRecDepth 100000
/-! PD2: comparisons, truth, subscripts, calls of built-ins. -/
namespace Pd
open PySem PySem.Spec PyProof.Rows L2

section
variable {K : PySem.W.Frag} {τ : Option Addr} {G H : Hp} {c : Nat}
mutual
theorem dp_of (le : ∀ a o, G a = some o → H a = some o) : ∀ {n : Nat} {v : V} {d : D}, Rep K τ G v d → d.fine n = true → Dp K H v d.py
  | _, _, _, .non, _ => by rw [D.py]; exact .non
  | _, _, _, .bl b, _ => by rw [D.py]; exact .bl b
  | _, _, _, .int i, _ => by rw [D.py]; exact .int i
  | 0, _, _, .tup _ _, h => by simp [D.fine] at h
  | 0, _, _, .lst _ _, h => by simp [D.fine] at h
  | n + 1, _, _, .tup s r, h => by rw [D.py]; exact .tup (sqT_mono le s) (dps_of le r (by simpa [D.fine] using h))
  | n + 1, _, _, .lst s r, h => by rw [D.py]; exact .lst (.inl (.inl (le _ _ s))) (dps_of le r (by simpa [D.fine] using h))
  | n, _, _, .dic s, h => by cases n <;> simp [D.fine] at h
  | n, _, _, .tin s, h => by cases n <;> simp [D.fine] at h
theorem dps_of (le : ∀ a o, G a = some o → H a = some o) : ∀ {n : Nat} {vs : List V} {ds : List D}, Reps K τ G vs ds → D.fines n ds = true → DpAll K H vs (D.pys ds)
  | _, _, _, .nil, _ => by rw [D.pys]; exact .nil
  | _, _, _, .cons r t, h => by
    rw [D.fines, Bool.and_eq_true] at h
    rw [D.pys]
    exact .cons (dp_of le r h.1) (dps_of le t h.2)
end
mutual
theorem lay_py : ∀ d : D, d.py.canLay0 = true
  | .non => by simp [D.py, PyData.canLay0]
  | .bl _ => by simp [D.py, PyData.canLay0]
  | .int _ => by simp [D.py, PyData.canLay0]
  | .tup l => by simpa [D.py, PyData.canLay0] using lay_pys l
  | .lst l => by simpa [D.py, PyData.canLay0] using lay_pys l
  | .dic _ => by simp [D.py, PyData.canLay0]
  | .tin => by simp [D.py, PyData.canLay0]
theorem lay_pys : ∀ l : List D, PyData.canLayAll0 (D.pys l) = true
  | [] => by simp [D.pys, PyData.canLayAll0]
  | d :: l => by simp [D.pys, PyData.canLayAll0, lay_py d, lay_pys l]
end
mutual
theorem depth_py : ∀ {n : Nat} {d : D}, d.fine n = true → d.py.depth ≤ n
  | _, .non, _ => by simp [D.py, PyData.depth]
  | _, .bl _, _ => by simp [D.py, PyData.depth]
  | _, .int _, _ => by simp [D.py, PyData.depth]
  | 0, .tup l, h => by simp [D.fine] at h
  | 0, .lst l, h => by simp [D.fine] at h
  | n + 1, .tup l, h => by
    have := depth_pys (n := n) (l := l) (by simpa [D.fine] using h)
    simp only [D.py, PyData.depth]; omega
  | n + 1, .lst l, h => by
    have := depth_pys (n := n) (l := l) (by simpa [D.fine] using h)
    simp only [D.py, PyData.depth]; omega
  | n, .dic _, h => by cases n <;> simp [D.fine] at h
  | n, .tin, h => by cases n <;> simp [D.fine] at h
theorem depth_pys : ∀ {n : Nat} {l : List D}, D.fines n l = true → PyData.depthAll (D.pys l) ≤ n
  | _, [], _ => by simp [D.pys, PyData.depthAll]
  | n, d :: l, h => by
    rw [D.fines, Bool.and_eq_true] at h
    have h1 := depth_py h.1
    have h2 := depth_pys h.2
    simp only [D.pys, PyData.depthAll]; omega
end
theorem shaped_py {n : Nat} {d : D} (h : d.fine n = true) (hn : n ≤ 64) : SeqAt.shaped d.py = true := by
  unfold SeqAt.shaped
  rw [lay_py, Bool.true_and]
  exact decide_eq_true (Nat.le_trans (depth_py h) hn)
theorem dp_ofB {Ha : Hp} (w : W0 τ G H c) {v : V} {d : D} (r : RB K τ Ha G H v d) (h : d.fine 60 = true) : Dp K H v d.py := by
  rcases r with r | ⟨p, vs, ds, rfl, rfl, hp, r, n⟩
  · exact dp_of w.le r h
  · rw [D.py]
    exact .lst (.inl (.inl hp)) (dps_of w.le r (n := 59) (by simpa [D.fine] using h))
end

def eqD (x y : D) (Q : D → Prop) : Prop := x.fine 60 = true ∧ y.fine 60 = true ∧ Q (.bl (PyData.eqv x.py y.py))
def neD (x y : D) (Q : D → Prop) : Prop := x.fine 60 = true ∧ y.fine 60 = true ∧ Q (.bl (!PyData.eqv x.py y.py))
@[simp] theorem eqD_int (i j : Int) (Q : D → Prop) : eqD (.int i) (.int j) Q = Q (.bl (decide (i = j))) := by
  simp only [eqD, D.fine, D.py, PyData.eqv, true_and]
  rfl
@[simp] theorem neD_int (i j : Int) (Q : D → Prop) : neD (.int i) (.int j) Q = Q (.bl (!decide (i = j))) := by
  simp only [neD, D.fine, D.py, PyData.eqv, true_and]
  rfl
@[simp] theorem eqD_bl (i j : Bool) (Q : D → Prop) : eqD (.bl i) (.bl j) Q = Q (.bl (i == j)) := by
  simp only [eqD, D.fine, D.py, PyData.eqv, true_and]
@[simp] theorem neD_bl (i j : Bool) (Q : D → Prop) : neD (.bl i) (.bl j) Q = Q (.bl (!(i == j))) := by
  simp only [neD, D.fine, D.py, PyData.eqv, true_and]
@[simp] def ltD (x y : D) (Q : D → Prop) : Prop := match x, y with
  | .int i, .int j => Q (.bl (decide (i < j)))
  | _, _ => False
@[simp] def leD (x y : D) (Q : D → Prop) : Prop := match x, y with
  | .int i, .int j => Q (.bl (decide (i ≤ j)))
  | _, _ => False
@[simp] def gtD (x y : D) (Q : D → Prop) : Prop := match x, y with
  | .int i, .int j => Q (.bl (decide (j < i)))
  | _, _ => False
@[simp] def geD (x y : D) (Q : D → Prop) : Prop := match x, y with
  | .int i, .int j => Q (.bl (decide (j ≤ i)))
  | _, _ => False
@[simp] def D.isN : D → Bool
  | .non => true
  | _ => false
@[simp] def isND (x : D) (Q : D → Prop) : Prop := Q (.bl x.isN)
def D.ofInts : List Int → List D := List.map D.int
def inD (neg : Bool) (x y : D) (Q : D → Prop) : Prop := ∃ (i : Int) (ns : List Int), x = .int i ∧ (y = .lst (ns.map D.int) ∨ y = .tup (ns.map D.int)) ∧ Q (.bl (if neg then !ns.contains i else ns.contains i))

section
variable {X : Cx} {e a b cc : Expr} {es : List Expr} {pos : Pos} {ta tb tc : TD}
theorem ent_bin {Ra Rb R : RR} {f : D → D → (D → Prop) → Prop} {r : R2} (z : Stab Ra) (zb : Back R) (hf : FR Ra Rb R X.K f r) : ∀ σ H Q, upE R X.K (dBin f ta tb) σ H Q → tOp r (upE Ra X.K ta) (upE Rb X.K tb) σ H Q :=
  fun σ H Q ⟨τ, H0, G, ρ, c, P, w, en, p, q⟩ => ⟨τ, H0, G, ρ, c, _, w, en, p, fun x c1 v G1 H1 p1 s1 r1 =>
    ⟨τ, H0, G1, ρ, c1, _, s1.w0 w, en.step s1, p1, fun y c2 u G2 H2 p2 s2 r2 =>
      hf τ H H1 G2 H2 c2 v u x y _ Q ((s1.trans w s2).w0 w) (z.st r1 s2) r2 p2 fun d u' G' H' p3 s3 r3 => q d c2 u' G' H' p3 ((s1.trans w s2).trans w s3) (zb.bk w (s1.trans w s2) r3)⟩⟩
/-- a comparison's rule, as a value, as a test -/
structure Cmp (X : Cx) (op : CmpOp) (a b : Expr) (f : D → D → (D → Prop) → Prop) (ta tb : TD) : Prop where
  ex : ∃ (r : R2) (A B : TE), OpR X (compareOp op) r ∧ PE X a A ∧ PE X b B ∧ behindInMarks op b = false ∧ ∀ σ H Q, upE RP X.K (dBin f ta tb) σ H Q → tOp r A B σ H Q
@[simp] def bT (t : TD) : TTD := fun ρ c Q => t ρ c fun d c1 => ∃ k, d = .bl k ∧ Q k c1
theorem upT_bT {t : TD} {σ : L2.St} {H : Hp} {Q : Bool → Hp → Prop} (h : upT X.K (bT t) σ H Q) : upE RP X.K t σ H fun x H' => ∃ k, x = .bl k ∧ Q k H' := by
  obtain ⟨τ, H0, G, ρ, c, P, w, en, p, q⟩ := h
  refine ⟨τ, H0, G, ρ, c, _, w, en, p, fun d c1 v G1 H1 ⟨k, hd, p1⟩ s1 r1 => ?_⟩
  subst hd
  cases r1
  exact ⟨k, rfl, q k c1 G1 H1 p1 s1⟩
theorem Cmp.pp {op : CmpOp} {f : D → D → (D → Prop) → Prop} (h : Cmp X op a b f ta tb) : PP X (.Compare a [op] [b] pos) (dBin f ta tb) := by
  obtain ⟨r, A, B, ho, hA, hB, hm, he⟩ := h.ex
  exact pe_imp (pe_cmpR ho hA hB hm) he
theorem Cmp.pt {op : CmpOp} {f : D → D → (D → Prop) → Prop} (h : Cmp X op a b f ta tb) : PTD X (.Compare a [op] [b] pos) (bT (dBin f ta tb)) := by
  obtain ⟨r, A, B, ho, hA, hB, hm, he⟩ := h.ex
  exact pt_imp (pt_cmpR ho hA hB hm) fun σ H Q q => he σ H _ (upT_bT q)
theorem fr_cmp {r : R2} {f : D → D → (D → Prop) → Prop} (h : ∀ x y P, f x y P → ∃ i j k, x = .int i ∧ y = .int j ∧ P (.bl k) ∧ ∀ H (Q : VK), Q (.bl k) H → r (.int i) (.int j) H Q) : FR RP RP RP X.K f r := by
  intro τ Ha Hb G H c v w x y P Q w0 r1 r2 hf q
  obtain ⟨i, j, k, rfl, rfl, p, hr⟩ := h x y P hf
  cases r1; cases r2
  exact hr H Q (q _ _ G H p w0.refl (.bl _))
theorem c_lt (ha : PP X a ta) (hb : PP X b tb) : Cmp X .Lt a b ltD ta tb := ⟨_, _, _, op_lt, ha, hb, nomark _, ent_bin stP bkP (fr_cmp fun x y P h => by
  unfold ltD at h
  split at h
  · exact ⟨_, _, _, rfl, rfl, h, fun H Q q => ⟨_, _, rfl, rfl, q⟩⟩
  · exact h.elim)⟩
theorem c_le (ha : PP X a ta) (hb : PP X b tb) : Cmp X .LtE a b leD ta tb := ⟨_, _, _, op_le, ha, hb, nomark _, ent_bin stP bkP (fr_cmp fun x y P h => by
  unfold leD at h
  split at h
  · exact ⟨_, _, _, rfl, rfl, h, fun H Q q => ⟨_, _, rfl, rfl, q⟩⟩
  · exact h.elim)⟩
theorem c_gt (ha : PP X a ta) (hb : PP X b tb) : Cmp X .Gt a b gtD ta tb := ⟨_, _, _, op_gt, ha, hb, nomark _, ent_bin stP bkP (fr_cmp fun x y P h => by
  unfold gtD at h
  split at h
  · exact ⟨_, _, _, rfl, rfl, h, fun H Q q => ⟨_, _, rfl, rfl, q⟩⟩
  · exact h.elim)⟩
theorem c_ge (ha : PP X a ta) (hb : PP X b tb) : Cmp X .GtE a b geD ta tb := ⟨_, _, _, op_ge, ha, hb, nomark _, ent_bin stP bkP (fr_cmp fun x y P h => by
  unfold geD at h
  split at h
  · exact ⟨_, _, _, rfl, rfl, h, fun H Q q => ⟨_, _, rfl, rfl, q⟩⟩
  · exact h.elim)⟩
theorem c_eq (hu : X.A.units + 64 < cLine) (ha : PB X a ta) (hb : PB X b tb) : Cmp X .Eq a b eqD ta tb := ⟨_, _, _, op_eqD hu, ha, hb, nomark _, ent_bin stB bkP fun τ Ha Hb G H c v w x y P Q w0 r1 r2 hf q =>
  ⟨_, _, dp_ofB w0 r1 hf.1, dp_ofB w0 r2 hf.2.1, shaped_py hf.1 (by decide), shaped_py hf.2.1 (by decide), q _ _ G H hf.2.2 w0.refl (.bl _)⟩⟩
theorem c_ne (hu : X.A.units + 64 < cLine) (ha : PB X a ta) (hb : PB X b tb) : Cmp X .NotEq a b neD ta tb := ⟨_, _, _, op_neD hu, ha, hb, nomark _, ent_bin stB bkP fun τ Ha Hb G H c v w x y P Q w0 r1 r2 hf q =>
  ⟨_, _, dp_ofB w0 r1 hf.1, dp_ofB w0 r2 hf.2.1, shaped_py hf.1 (by decide), shaped_py hf.2.1 (by decide), q _ _ G H hf.2.2 w0.refl (.bl _)⟩⟩
/-- x is None -/
structure CmpN (X : Cx) (a b : Expr) (ta : TD) : Prop where
  pp : ∀ {pos}, PP X (.Compare a [.Is] [b] pos) (dUn isND ta)
  pt : ∀ {pos}, PTD X (.Compare a [.Is] [b] pos) (bT (dUn isND ta))
theorem rep_non {K τ G} {v : V} {d : D} (r : Rep K τ G v d) : decide (v = .non) = d.isN := by
  cases r <;> first | rfl | exact decide_eq_false (fun z => nomatch z)
theorem c_isN {j p} (ha : PP X a ta) : CmpN X a (.Constant .none j p) ta := by
  have key : ∀ σ H Q, upE RP X.K (dUn isND ta) σ H Q → tOp (fun x y H Q => y = .non ∧ Q (.bl (decide (x = .non))) H) (upE RP X.K ta) (tC .non) σ H Q := fun σ H Q ⟨τ, H0, G, ρ, c, P, w, en, p, q⟩ =>
    ⟨τ, H0, G, ρ, c, _, w, en, p, fun x c1 v G1 H1 p1 s1 r1 => ⟨rfl, q _ c1 _ G1 H1 p1 s1 (by rw [rep_non r1]; exact .bl _)⟩⟩
  exact ⟨pe_imp (pe_cmpR op_isN ha pe_non (nomark _)) key, pt_imp (pt_cmpR op_isN ha pe_non (nomark _)) fun σ H Q q => key σ H _ (upT_bT q)⟩
theorem ppd_isN {j p} (ha : PP X a ta) : PP X (.Compare a [.Is] [.Constant .none j p] pos) (dUn isND ta) := (c_isN ha).pp
theorem ptd_isN {j p} (ha : PP X a ta) : PTD X (.Compare a [.Is] [.Constant .none j p] pos) (bT (dUn isND ta)) := (c_isN ha).pt
theorem flat_ints (ns : List Int) : (ns.map V.int).all flatV = true := by
  induction ns with
  | nil => rfl
  | cons n r ih => rw [List.map_cons, List.all_cons, ih]; rfl
theorem inV_ints (i : Int) (ns : List Int) : inV (.int i) (ns.map V.int) = ns.contains i := by
  unfold inV
  induction ns with
  | nil => rfl
  | cons n r ih =>
    rw [List.map_cons, List.any_cons, ih, List.contains_cons]
    congr 1
    show (n == i) = (i == n)
    by_cases h : n = i
    · subst h; rfl
    · rw [beq_eq_false_iff_ne.mpr h, beq_eq_false_iff_ne.mpr (Ne.symm h)]
theorem fr_in (neg : Bool) : FR RP RP RP X.K (inD neg) (rIn X.K neg) := by
  intro τ Ha Hb G H c v w x y P Q w0 r1 r2 hf q
  obtain ⟨i, ns, rfl, hy, p⟩ := hf
  cases r1
  have fin : ∀ pp vs, w = .ref pp → (SqL X.K H pp vs ∨ SqT X.K H pp vs) → vs = ns.map V.int → rIn X.K neg (.int i) w H Q := fun pp vs e hs ev => by
    subst e ev
    refine ⟨pp, _, rfl, hs, rfl, flat_ints ns, ?_⟩
    rw [inV_ints]
    exact q _ _ G H p w0.refl (.bl _)
  rcases hy with rfl | rfl
  · cases r2 with
    | lst h r => exact fin _ _ rfl (.inl (.inl (.inl (w0.le _ _ h)))) r.ints
  · cases r2 with
    | tup h r => exact fin _ _ rfl (.inr (sqT_mono w0.le h)) r.ints
theorem c_in (ha : PP X a ta) (hb : PP X b tb) (hm : behindInMarks .In b = false) : Cmp X .In a b (inD false) ta tb := ⟨_, _, _, op_in_seq, ha, hb, hm, ent_bin stP bkP (fr_in false)⟩
theorem c_notin (ha : PP X a ta) (hb : PP X b tb) (hm : behindInMarks .NotIn b = false) : Cmp X .NotIn a b (inD true) ta tb := ⟨_, _, _, op_notIn_seq, ha, hb, hm, ent_bin stP bkP (fr_in true)⟩

/-! a chain of two comparisons of whole numbers -/
@[simp] def dChain (f g : D → D → (D → Prop) → Prop) (ta tb tc : TD) : TD := fun ρ c Q => ta ρ c fun x c1 => tb ρ c1 fun y c2 => f x y fun d => ∃ k, d = .bl k ∧ if k = true then tc ρ c2 fun z c3 => g y z fun d => Q d c3 else Q (.bl false) c2
theorem ent_chain {f g : D → D → (D → Prop) → Prop} {r r' : R2} (hf : FR RP RP RP X.K f r) (hg : FR RP RP RP X.K g r') :
    ∀ σ H Q, upE RP X.K (dChain f g ta tb tc) σ H Q → tChain r r' (upE RP X.K ta) (upE RP X.K tb) (upE RP X.K tc) σ H Q :=
  fun σ H Q ⟨τ, H0, G, ρ, c, P, w, en, p, q⟩ => ⟨τ, H0, G, ρ, c, _, w, en, p, fun x c1 v G1 H1 p1 s1 r1 =>
    ⟨τ, H0, G1, ρ, c1, _, s1.w0 w, en.step s1, p1, fun y c2 u G2 H2 p2 s2 r2 => by
      have s12 := s1.trans w s2
      refine hf τ H H1 G2 H2 c2 v u x y _ _ (s12.w0 w) (stP.st r1 s2) r2 p2 fun d u' G3 H3 p3 s3 r3 => ?_
      obtain ⟨k, rfl, p4⟩ := p3
      cases r3
      refine ⟨k, rfl, ?_⟩
      have s13 := s12.trans w s3
      cases k with
      | false =>
        rw [if_neg Bool.false_ne_true] at p4 ⊢
        exact q _ c2 _ G3 H3 p4 s13 (.bl _)
      | true =>
        rw [if_pos rfl] at p4 ⊢
        exact ⟨τ, H0, G3, ρ, c2, _, s13.w0 w, en.step s13, p4, fun z c4 w' G4 H4 p5 s4 r4 =>
          hg τ H1 H3 G4 H4 c4 u w' y z _ Q ((s13.trans w s4).w0 w) (stP.st (stP.st r2 s3) s4) r4 p5 fun d u' G' H' p6 s6 r6 => q d c4 u' G' H' p6 ((s13.trans w s4).trans w s6) r6⟩⟩⟩
theorem fr_lt : FR RP RP RP X.K ltD (rI0 fun i j => .bl (decide (i < j))) := fr_cmp fun x y P h => by
  unfold ltD at h
  split at h
  · exact ⟨_, _, _, rfl, rfl, h, fun H Q q => ⟨_, _, rfl, rfl, q⟩⟩
  · exact h.elim
theorem fr_le : FR RP RP RP X.K leD (rI0 fun i j => .bl (decide (i ≤ j))) := fr_cmp fun x y P h => by
  unfold leD at h
  split at h
  · exact ⟨_, _, _, rfl, rfl, h, fun H Q q => ⟨_, _, rfl, rfl, q⟩⟩
  · exact h.elim
theorem ppd_lele (ha : PP X a ta) (hb : PP X b tb) (hc : PP X cc tc) (hm : lastMarks [.LtE, .LtE] [b, cc] = false := by with_unfolding_all rfl) : PP X (.Compare a [.LtE, .LtE] [b, cc] pos) (dChain leD leD ta tb tc) := pe_imp (pe_chain op_le op_le ha hb hc hm) (ent_chain fr_le fr_le)
theorem ptd_lele (ha : PP X a ta) (hb : PP X b tb) (hc : PP X cc tc) (hm : lastMarks [.LtE, .LtE] [b, cc] = false := by with_unfolding_all rfl) : PTD X (.Compare a [.LtE, .LtE] [b, cc] pos) (bT (dChain leD leD ta tb tc)) := pt_imp (pt_chain op_le op_le ha hb hc hm) fun σ H Q q => ent_chain fr_le fr_le σ H _ (upT_bT q)
theorem ptd_ltle (ha : PP X a ta) (hb : PP X b tb) (hc : PP X cc tc) (hm : lastMarks [.Lt, .LtE] [b, cc] = false := by with_unfolding_all rfl) : PTD X (.Compare a [.Lt, .LtE] [b, cc] pos) (bT (dChain ltD leD ta tb tc)) := pt_imp (pt_chain op_lt op_le ha hb hc hm) fun σ H Q q => ent_chain fr_lt fr_le σ H _ (upT_bT q)
end
end Pd
end
section
set_option Elab.async false
set_option linter.all false
set_option maxRecDepth 100000
/-! PD3: truth, subscripts, slices, built-ins. -/
namespace Pd
open PySem PySem.Spec PyProof.Rows L2
section
variable {X : Cx} {e a b cc : Expr} {es rest : List Expr} {pos p2 : Pos} {ta tb tc : TD} {sa sb : TTD}

/-! truth -/
theorem ptd_val (h : PP X e ta) (he : ∀ whole, isTrue e X.env whole = (do let v ← whole; standAt e.pos; holding [v] (truthy v)) := by intro _; rfl) : PTD X e (bT ta) :=
  pt_imp (pt_val h he) fun σ H Q q => upT_bT q
@[simp] def dAnd (ta tb : TTD) : TTD := fun ρ c Q => ta ρ c fun k c1 => if k = true then tb ρ c1 Q else Q false c1
@[simp] def dOr (ta tb : TTD) : TTD := fun ρ c Q => ta ρ c fun k c1 => if k = true then Q true c1 else tb ρ c1 Q
@[simp] def dNot (ta : TTD) : TTD := fun ρ c Q => ta ρ c fun k c1 => Q (!k) c1
theorem pwd_and1 (ha : PTD X a sa) : PWD X (.BoolOp .And [a] pos) sa := pw_and1 ha
theorem pwd_or1 (ha : PTD X a sa) : PWD X (.BoolOp .Or [a] pos) sa := pw_or1 ha
theorem pwd_and (ha : PTD X a sa) (hb : PWD X (.BoolOp .And (b :: rest) pos) sb) : PWD X (.BoolOp .And (a :: b :: rest) pos) (dAnd sa sb) :=
  pw_imp (pw_and ha hb) fun σ H Q ⟨τ, H0, G, ρ, c, P, w, en, p, q⟩ => ⟨τ, H0, G, ρ, c, _, w, en, p, fun k c1 G1 H1 p1 s1 => by
    cases k with
    | true => exact ⟨τ, H0, G1, ρ, c1, _, s1.w0 w, en.step s1, p1, fun k c2 G2 H2 p2 s2 => q k c2 G2 H2 p2 (s1.trans w s2)⟩
    | false => exact q false c1 G1 H1 p1 s1⟩
theorem pwd_or (ha : PTD X a sa) (hb : PWD X (.BoolOp .Or (b :: rest) pos) sb) : PWD X (.BoolOp .Or (a :: b :: rest) pos) (dOr sa sb) :=
  pw_imp (pw_or ha hb) fun σ H Q ⟨τ, H0, G, ρ, c, P, w, en, p, q⟩ => ⟨τ, H0, G, ρ, c, _, w, en, p, fun k c1 G1 H1 p1 s1 => by
    cases k with
    | false => exact ⟨τ, H0, G1, ρ, c1, _, s1.w0 w, en.step s1, p1, fun k c2 G2 H2 p2 s2 => q k c2 G2 H2 p2 (s1.trans w s2)⟩
    | true => exact q true c1 G1 H1 p1 s1⟩
theorem ptd_w (h : PWD X e sa) : PTD X e sa := h.pt
theorem ptd_not (ha : PTD X a sa) : PTD X (.UnaryOp .Not a pos) (dNot sa) :=
  pt_imp (pt_not ha) fun σ H Q ⟨τ, H0, G, ρ, c, P, w, en, p, q⟩ => ⟨τ, H0, G, ρ, c, _, w, en, p, fun k c1 G1 H1 p1 s1 => q (!k) c1 G1 H1 p1 s1⟩
/-- .. as values -/
@[simp] def vAnd (ta tb : TD) : TD := fun ρ c Q => ta ρ c fun x c1 => ∃ k, x = .bl k ∧ if k = true then tb ρ c1 Q else Q (.bl false) c1
@[simp] def vOr (ta tb : TD) : TD := fun ρ c Q => ta ρ c fun x c1 => ∃ k, x = .bl k ∧ if k = true then Q (.bl true) c1 else tb ρ c1 Q
@[simp] def vNot (ta : TD) : TD := fun ρ c Q => ta ρ c fun x c1 => ∃ k, x = .bl k ∧ Q (.bl (!k)) c1
theorem ppd_one {op} (h : PP X a ta) : PP X (.BoolOp op [a] pos) ta := pe_one h
theorem ppd_and (ha : PP X a ta) (hb : PP X (.BoolOp .And (b :: rest) pos) tb) : PP X (.BoolOp .And (a :: b :: rest) pos) (vAnd ta tb) :=
  pe_imp (pe_and ha hb) fun σ H Q ⟨τ, H0, G, ρ, c, P, w, en, p, q⟩ => ⟨τ, H0, G, ρ, c, _, w, en, p, fun d c1 v G1 H1 ⟨k, hd, p1⟩ s1 r1 => by
    subst hd
    cases r1
    refine ⟨k, rfl, ?_⟩
    cases k with
    | true => exact ⟨τ, H0, G1, ρ, c1, _, s1.w0 w, en.step s1, p1, fun d c2 v2 G2 H2 p2 s2 r2 => q d c2 v2 G2 H2 p2 (s1.trans w s2) r2⟩
    | false => exact q _ c1 _ G1 H1 p1 s1 (.bl _)⟩
theorem ppd_or (ha : PP X a ta) (hb : PP X (.BoolOp .Or (b :: rest) pos) tb) : PP X (.BoolOp .Or (a :: b :: rest) pos) (vOr ta tb) :=
  pe_imp (pe_or ha hb) fun σ H Q ⟨τ, H0, G, ρ, c, P, w, en, p, q⟩ => ⟨τ, H0, G, ρ, c, _, w, en, p, fun d c1 v G1 H1 ⟨k, hd, p1⟩ s1 r1 => by
    subst hd
    cases r1
    refine ⟨k, rfl, ?_⟩
    cases k with
    | false => exact ⟨τ, H0, G1, ρ, c1, _, s1.w0 w, en.step s1, p1, fun d c2 v2 G2 H2 p2 s2 r2 => q d c2 v2 G2 H2 p2 (s1.trans w s2) r2⟩
    | true => exact q _ c1 _ G1 H1 p1 s1 (.bl _)⟩
theorem ppd_not (ha : PP X a ta) : PP X (.UnaryOp .Not a pos) (vNot ta) :=
  pe_imp (pe_not ha) fun σ H Q ⟨τ, H0, G, ρ, c, P, w, en, p, q⟩ => ⟨τ, H0, G, ρ, c, _, w, en, p, fun d c1 v G1 H1 ⟨k, hd, p1⟩ s1 r1 => by
    subst hd
    cases r1
    exact ⟨k, rfl, q _ c1 _ G1 H1 p1 s1 (.bl _)⟩⟩
@[simp] def dIf (t : TTD) (ta tb : TD) : TD := fun ρ c Q => t ρ c fun k c1 => if k = true then ta ρ c1 Q else tb ρ c1 Q
theorem up_if {R : RR} (zb : Back R) (hc : PTD X cc sa) (ha : PE X a (upE R X.K ta)) (hb : PE X b (upE R X.K tb)) : PE X (.IfExp cc a b pos) (upE R X.K (dIf sa ta tb)) :=
  pe_imp (pe_ifExp hc ha hb) fun σ H Q ⟨τ, H0, G, ρ, c, P, w, en, p, q⟩ => ⟨τ, H0, G, ρ, c, _, w, en, p, fun k c1 G1 H1 p1 s1 => by
    cases k with
    | true => exact ⟨τ, H0, G1, ρ, c1, _, s1.w0 w, en.step s1, p1, fun d c2 v2 G2 H2 p2 s2 r2 => q d c2 v2 G2 H2 p2 (s1.trans w s2) (zb.bk w s1 r2)⟩
    | false => exact ⟨τ, H0, G1, ρ, c1, _, s1.w0 w, en.step s1, p1, fun d c2 v2 G2 H2 p2 s2 r2 => q d c2 v2 G2 H2 p2 (s1.trans w s2) (zb.bk w s1 r2)⟩⟩
theorem ppd_if (hc : PTD X cc sa) (ha : PP X a ta) (hb : PP X b tb) : PP X (.IfExp cc a b pos) (dIf sa ta tb) := up_if bkP hc ha hb

/-! subscripts -/
@[simp] def ixD (x y : D) (Q : D → Prop) : Prop := match x, y with
  | .tup l, .int i => ∃ d, atI l i = some d ∧ Q d
  | .lst l, .int i => ∃ d, atI l i = some d ∧ Q d
  | _, _ => False
theorem at_reps {K : PySem.W.Frag} {τ : Option Addr} {G : Hp} {vs : List V} {ds : List D} (r : Reps K τ G vs ds) {i : Int} {d : D} (h : atI ds i = some d) : ∃ v, atI vs i = some v ∧ Rep K τ G v d := by
  unfold atI at h ⊢
  rw [r.len]
  cases e : ixN ds.length i with
  | none => rw [e] at h; cases h
  | some j =>
    rw [e] at h
    exact r.get h
/-- a list, a tuple off its data -/
theorem off {K : PySem.W.Frag} {τ : Option Addr} {Ha G H : Hp} {c : Nat} (w0 : W0 τ G H c) {v : V} {l : List D} (r : RB K τ Ha G H v (.lst l)) : ∃ p vs, v = .ref p ∧ H p = some (.lst vs) ∧ Reps K τ G vs l := by
  rcases r with r | ⟨p, vs, ds, e1, e2, h, r, n⟩
  · cases r with
    | lst h r => exact ⟨_, _, rfl, w0.le _ _ h, r⟩
  · cases e2; exact ⟨p, vs, e1, h, r⟩
theorem offT {K : PySem.W.Frag} {τ : Option Addr} {Ha G H : Hp} {v : V} {l : List D} (r : RB K τ Ha G H v (.tup l)) : ∃ p vs, v = .ref p ∧ SqT K G p vs ∧ Reps K τ G vs l := by
  rcases r with r | ⟨p, vs, ds, e1, e2, h, r, n⟩
  · cases r with
    | tup h r => exact ⟨_, _, rfl, h, r⟩
  · cases e2
theorem ppd_ix (ha : PB X a ta) (hb : PP X b tb) (hs : PlainIx b := by exact fun _ _ => rfl) : PP X (.Subscript a b pos) (dBin ixD ta tb) := by
  refine up_bin stB bkP ?_ (pe_ix ix_seq ha hb hs)
  intro τ Ha Hb G H c v w x y P Q w0 r1 r2 hf q
  unfold ixD at hf
  split at hf
  · obtain ⟨d, h, p⟩ := hf
    obtain ⟨pp, vs, rfl, h1, q1⟩ := offT r1
    cases r2
    obtain ⟨u, h2, r3⟩ := at_reps q1 h
    exact .inr (.inl ⟨_, _, _, u, rfl, rfl, sqT_mono w0.le h1, h2, q d u G H p w0.refl r3⟩)
  · obtain ⟨d, h, p⟩ := hf
    obtain ⟨pp, vs, rfl, h1, q1⟩ := off w0 r1
    cases r2
    obtain ⟨u, h2, r3⟩ := at_reps q1 h
    exact .inl ⟨_, _, _, u, rfl, rfl, .of h1, h2, q d u G H p w0.refl r3⟩
  · exact hf.elim
/-- d[(i, j)] of the dict of pairs -/
def dval (l : List ((Int × Int) × Bool)) (k : Int × Int) : Option Bool := (l.find? fun p => decide (p.1 = k)).map (·.2)
@[simp] def dgetD (x y : D) (Q : D → Prop) : Prop := ∃ l i j b, x = .dic l ∧ y = .tup [.int i, .int j] ∧ dval l (i, j) = some b ∧ Q (.bl b)
theorem valV_dKV (l : List ((Int × Int) × Bool)) (i j : Int) : valV (dKV l) [.inl i, .inl j] = (dval l (i, j)).map V.bl := by
  induction l with
  | nil => rfl
  | cons p r ih =>
    obtain ⟨⟨a, b⟩, k⟩ := p
    show valV (([Sum.inl a, Sum.inl b], V.bl k) :: dKV r) _ = _
    by_cases h : (a, b) = (i, j)
    · obtain ⟨rfl, rfl⟩ := Prod.mk.inj h
      rw [valV_pos rfl]
      simp [dval, List.find?_cons]
    · rw [valV_neg (fun z => h (by simpa using z)), ih]
      simp only [dval, List.find?_cons]
      rw [decide_eq_false h]
def DGetT (K : PySem.W.Frag) (H : Hp) (a : Addr) (y : V) (r : V) : Prop := ∃ kvs k b, Rd H a (.dT kvs) ∧ y = .ref b ∧ SqT K H b (k.map kV) ∧ valV kvs k = some r
theorem d_getItemT {pins : List (Addr × Obj)} {σ : L2.St} {H : Hp} {s : Shared} {a : Addr} {y v : V} {u : Value} {A : Around} {E : Value → Shared → Prop} {Q : Value → Shared → Prop} (hu : A.units + 1 < cLine) (I : Inv X pins σ H s) (g : DGetT X.K H a y v) (ry : RelV y u) (h : ∀ w' s', Inv X pins σ H s' → RelV v w' → Q w' s') :
    s.TypeIs (.ref a) "dict" ∧ wpAny (model X.prog X.w) A (getItem (.ref a) u) Q E s := by
  obtain ⟨kvs, k, b, e, ey, eb, l⟩ := g
  subst ey
  cases (show u = Value.ref b from ry)
  obtain ⟨z, hd, xs, rel, dd⟩ := dt_rd I.hok e
  obtain ⟨w', hw, rw'⟩ := RelO.some_of (v := v) (o := (atKey xs k).map (·.2)) (by rw [← l]; exact rel.val k)
  obtain ⟨p, hp, hp2⟩ := Option.map_eq_some_iff.mp hw
  refine ⟨dd.typeIs, wpAny_getItem_heap (tupleKind_room_in1 hu) ?_ dd hp ?_⟩
  · obtain ⟨its, r, ⟨o, h1, h2, n, h3⟩, _⟩ := I.tuple eb
    exact ⟨o, its.toArray, n, h1, h2, h3, by simpa using items_are r⟩
  · rw [hp2]
    exact h w' _ (I.tok _) rw'
theorem ppd_dget (hu : X.A.units + 1 < cLine) (ha : PP X a ta) (hb : PP X b tb) (hs : NoSl b := by exact fun _ _ => rfl) : PP X (.Subscript a b pos) (dBin dgetD ta tb) := by
  have key : PE X (.Subscript a b pos) (tOp (fun x y H Q => ∃ p v, x = .ref p ∧ DGetT X.K H p y v ∧ Q v H) (upE RP X.K ta) (upE RP X.K tb)) := by
    refine ⟨fun pins s σ H Q I h => ?_⟩
    refine subD_of PySem.F.slot_dict_getitem.lookup hs (thn (ha.run pins s σ H _ I h) fun u s1 ⟨x, H1, I1, rx, q1⟩ => thn (hb.run pins s1 σ H1 _ I1 q1) fun iv s2 ⟨y, H2, I2, ry, a, v, ex, g, q2⟩ => ?_)
    subst ex
    obtain rfl : u = Value.ref a := rx
    exact d_getItemT hu I2 g ry fun w' s3 I3 rw' => ⟨v, H2, I3, rw', q2⟩
  refine up_bin stP bkP ?_ key
  intro τ Ha Hb G H c v w x y P Q w0 r1 r2 hf q
  obtain ⟨l, i, j, k, rfl, rfl, hk, p⟩ := hf
  cases r1 with
  | dic h1 =>
    cases r2 with
    | tup h2 r =>
      have e2 := Reps.ints (ns := [i, j]) r
      subst e2
      refine ⟨_, .bl k, rfl, ⟨dKV l, [.inl i, .inl j], _, .inl (w0.le _ _ h1), rfl, sqT_mono w0.le h2, ?_⟩, q _ _ G H p w0.refl (.bl _)⟩
      rw [valV_dKV, hk]
      rfl

/-! slices -/
abbrev TOD := Rho → Nat → (Option Int → Nat → Prop) → Prop
def upO (K : PySem.W.Frag) (t : TOD) : L2.TO := fun σ H Q => ∃ (τ : Option Addr) (H0 G : Hp) (ρ : Rho) (c : Nat) (P : Option Int → Nat → Prop), W0 τ G H c ∧ EnvR K τ H0 G H σ ρ ∧ t ρ c P ∧
  ∀ b c' G' H', P b c' → Step τ G H c G' H' c' → Q b H'
abbrev POD (X : Cx) (e : Option Expr) (t : TOD) : Prop := PO X e (upO X.K t)
@[simp] def oNo : TOD := fun _ c Q => Q none c
@[simp] def oSo (t : TD) : TOD := fun ρ c Q => t ρ c fun d c1 => ∃ i, d = .int i ∧ Q (some i) c1
theorem po_imp {o : Option Expr} {t t' : L2.TO} (h : PO X o t) (i : ∀ σ H Q, t' σ H Q → t σ H Q) : PO X o t' := ⟨fun pins s σ H Q I hw => h.run pins s σ H Q I (i σ H Q hw)⟩
theorem pod_none : POD X none oNo := po_imp po_none fun σ H Q ⟨τ, H0, G, ρ, c, P, w, en, p, q⟩ => q none c G H p w.refl
theorem pod_some (h : PP X e ta) : POD X (some e) (oSo ta) := po_imp (po_some h) fun σ H Q ⟨τ, H0, G, ρ, c, P, w, en, p, q⟩ => ⟨τ, H0, G, ρ, c, _, w, en, p, fun d c1 v G1 H1 ⟨i, hd, p1⟩ s1 r1 => by
  subst hd
  cases r1
  exact ⟨i, rfl, q (some i) c1 G1 H1 p1 s1⟩⟩
def cutD (l : List D) (lo hi : Option Int) : List D := (l.drop (HT.sIx l.length 0 lo)).take (HT.sIx l.length l.length hi - HT.sIx l.length 0 lo)
theorem cut_reps {K : PySem.W.Frag} {τ : Option Addr} {G : Hp} {vs : List V} {ds : List D} (r : Reps K τ G vs ds) (lo hi : Option Int) : Reps K τ G (cutV vs lo hi) (cutD ds lo hi) := by
  unfold cutV cutD
  rw [r.len]
  exact (r.drop _).take _
@[simp] def slD (x : D) (lo hi : Option Int) (Q : D → Prop) : Prop := match x with
  | .tup l => Q (.tup (cutD l lo hi))
  | .lst l => Q (.lst (cutD l lo hi))
  | _ => False
@[simp] def dSl (t : TD) (tl th : TOD) : TD := fun ρ c Q => t ρ c fun x c1 => tl ρ c1 fun l c2 => th ρ c2 fun u c3 => slD x l u fun d => Q d c3
theorem ppd_slice {lo hi : Option Expr} {tl th : TOD} (he : PB X e ta) (hl : POD X lo tl) (hh : POD X hi th) : PP X (.Subscript e (.Slice lo hi none p2) pos) (dSl ta tl th) :=
  pe_imp (pe_slice (sl_list.or sl_tupA) he hl hh) fun σ H Q ⟨τ, H0, G, ρ, c, P, w, en, p, q⟩ => ⟨τ, H0, G, ρ, c, _, w, en, p, fun x c1 v G1 H1 p1 s1 r1 =>
    ⟨τ, H0, G1, ρ, c1, _, s1.w0 w, en.step s1, p1, fun l c2 G2 H2 p2 s2 =>
      ⟨τ, H0, G2, ρ, c2, _, s2.w0 (s1.w0 w), (en.step s1).step s2, p2, fun u c3 G3 H3 p3 s3 => by
        have s13 := (s1.trans w s2).trans w s3
        have w3 := s13.w0 w
        have r3 := stB.st (stB.st r1 s2) s3
        unfold slD at p3
        split at p3
        · obtain ⟨pp, vs, rfl, h1, q1⟩ := offT r3
          refine .inr ⟨pp, vs, rfl, sqT_mono w3.le h1, fun hw => ?_, fun _ a ha => ?_⟩
          · refine q _ c3 _ G3 H3 p3 s13 ?_
            have e : cutV vs l u = vs := by
              unfold cutV
              rw [hw.1, hw.2]
              simp
            have r := cut_reps q1 l u
            rw [e] at r
            exact .tup h1 r
          · exact q _ c3 _ _ _ p3 (s13.trans w (.laid w3 ha)) (.tup (.inl (.inl upd_same)) (rep_new (g_none w3 ha) (cut_reps q1 l u)))
        · obtain ⟨pp, vs, rfl, h1, q1⟩ := off w3 r3
          refine .inl ⟨pp, vs, rfl, .of h1, fun a ha => ?_⟩
          exact q _ c3 _ _ _ p3 (s13.trans w (.laid w3 ha)) (.lst upd_same (rep_new (g_none w3 ha) (cut_reps q1 l u)))
        · exact p3.elim⟩⟩⟩
@[simp] def revD (x : D) (Q : D → Prop) : Prop := match x with
  | .lst l => Q (.lst l.reverse)
  | _ => False
theorem ppd_rev {k : Nat} {p1 p3 : Pos} (he : PB X e ta) : PP X (.Subscript e (.Slice none none (some (.UnaryOp .USub (.Constant (.int 1) k p1) p2)) p3) pos) (dUn revD ta) :=
  pe_imp (pe_revL he) fun σ H Q ⟨τ, H0, G, ρ, c, P, w, en, p, q⟩ => ⟨τ, H0, G, ρ, c, _, w, en, p, fun x c1 v G1 H1 p1 s1 r1 => by
    have w1 := s1.w0 w
    unfold revD at p1
    split at p1
    · obtain ⟨pp, vs, rfl, h1, q1⟩ := off w1 r1
      refine ⟨pp, vs, rfl, .of h1, fun a ha => ?_⟩
      exact q _ c1 _ _ _ p1 (s1.trans w (.laid w1 ha)) (.lst upd_same (rep_new (g_none w1 ha) q1.reverse))
    · exact p1.elim⟩
end
end Pd
end
section
set_option Elab.async false
set_option linter.all false
set_option maxRecDepth 100000
/-! PD4: built-ins, isinstance, repetition. -/
namespace Pd
open PySem PySem.Spec PyProof.Rows L2
open PySem.P in
theorem tup_mul1 (l : Addr) (items : Array Value) (n : Nat) (dd : Option Addr) (sl : Array (Option Value)) (u : Tok) :
    Meets (Builtin.«tuple.__mul__» ⟨[.ref l, .int 1 u], []⟩) (fun _ R s => s.heap.get? l = some { cls := .type "tuple", dict := dd, data := .seq items n, slots := sl } ∧ R (.ok (.ret (Value.ref l))) s) :=
  .of_wp fun prog w A R s h => by
    obtain ⟨hp, g, d, tk, os⟩ := s
    obtain ⟨hl, h⟩ := h
    have f1 := AutoSeq1.idx_int
    have c0 : (decide ((1 : Int) < -(2 ^ 63)) || decide ((1 : Int) ≥ 2 ^ 63)) = false := by decide
    have c1 : (items.isEmpty || (1 : Int) == 1) = true := by simp
    wp_walk using wpAny_loadPart' hl
    repeat (first
      | (refine wpAny_ite_false (decide_eq_false (by rw [c0]; exact Bool.false_ne_true)) ?_; wp_walk using wpAny_loadPart' hl)
      | (refine wpAny_ite_true (decide_eq_true (by rw [c1])) ?_; wp_walk using wpAny_loadPart' hl))
    exact ⟨_, rfl, h⟩
theorem tup_mul0 (l : Addr) (items : Array Value) (n : Nat) (dd : Option Addr) (sl : Array (Option Value)) (u : Tok) (hi : items.isEmpty = false) :
    Meets (Builtin.«tuple.__mul__» ⟨[.ref l, .int 0 u], []⟩) (fun _ R s => s.heap.get? l = some { cls := .type "tuple", dict := dd, data := .seq items n, slots := sl } ∧
      R (.ok (.ret (Value.ref s.heap.objs.size))) { s with heap := s.heap.push { cls := Value.type "tuple", data := Data.seq #[] }, toks := s.toks }) :=
  .of_wp fun prog w A R s h => by
    obtain ⟨hp, g, d, tk, os⟩ := s
    obtain ⟨hl, h⟩ := h
    have f1 := AutoSeq1.idx_int
    have c0 : (decide ((0 : Int) < -(2 ^ 63)) || decide ((0 : Int) ≥ 2 ^ 63)) = false := by decide
    have c1 : (items.isEmpty || (0 : Int) == 1) = false := by rw [hi]; rfl
    have c2 : (decide ((0 : Int) ≤ 0) || items.isEmpty) = true := by simp
    have hsz : (#[] : Array Value).size ≤ sizeLine := by decide
    wp_walk using wpAny_loadPart' hl
    repeat (first
      | (refine wpAny_ite_false (decide_eq_false (by rw [c0]; exact Bool.false_ne_true)) ?_; wp_walk using wpAny_loadPart' hl)
      | (refine wpAny_ite_false (decide_eq_false (by rw [c1]; exact Bool.false_ne_true)) ?_; wp_walk using wpAny_loadPart' hl)
      | (refine wpAny_ite_true (decide_eq_true (by rw [c2])) ?_; wp_walk using wpAny_loadPart' hl)
      | (refine wpAny_ite_false (decide_eq_false (Nat.not_lt.mpr hsz)) ?_; wp_walk using wpAny_loadPart' hl))
    exact ⟨_, rfl, h⟩
section
variable {X : Cx}
/-- a tuple, not empty, so many times: once is itself, never is a new empty one -/
def rRepA (K : PySem.W.Frag) : R2 := fun x y H Q => ∃ l k xs, x = .ref l ∧ y = .int k ∧ SqT K H l xs ∧ xs ≠ [] ∧ 0 ≤ k ∧ k ≤ 1000 ∧ xs.length ≤ 1000 ∧ (k = 1 → Q (.ref l) H) ∧ (k ≠ 1 → ∀ p, H p = none → Q (.ref p) (upd H p (.tup (List.replicate k.toNat xs).flatten)))
theorem op_repA : OpR X (binaryOp .Mult) (rRepA X.K) := by
  intro pins s σ H x y v u Q I rx ry h
  obtain ⟨l, k, xs, rfl, rfl, hT, hne, h1, h2, hz, q1, q2⟩ := h
  by_cases hk2 : 2 ≤ k
  · exact op_repT pins s σ H _ _ v u Q I rx ry ⟨l, k, xs, rfl, rfl, hT, hne, hk2, h2, hz, q2 (by omega)⟩
  · cases rx
    obtain ⟨t, rfl⟩ := ry
    obtain ⟨its, r, ⟨⟨cls, dd, data, sl⟩, ho, hc, n, hd⟩, hs⟩ := I.tuple hT
    simp only at hc hd
    subst hc hd
    have hle : its.length = xs.length := r.length.symm
    have hn : its ≠ [] := fun e => hne (by
      rw [e] at hle
      exact List.eq_nil_of_length_eq_zero hle.symm)
    have hi : its.toArray.isEmpty = false := by
      cases its with
      | nil => exact absurd rfl hn
      | cons a b => rfl
    have hk : k = 1 ∨ k = 0 := by omega
    rcases hk with rfl | rfl
    · refine wpAny_binaryOp_repeat_ref (T := "tuple") (U := "int") (by decide) ⟨_, ho, rfl⟩ (fun s' => typeIs_int s' 1 t) noFill_tuple_mul PySem.F.fills_int_mul PySem.F.slot_int_rmul repeat_tuple PySem.F.slot_int_index.lookup
        (call_meets PySem.F.slot_int_rmul (typeIs_int s 1 t) PySem.F.entry_int_rmul (PySem.F.args_int_rmul_2 _ _) (int_rmul_tuple 1 t l its.toArray n dd sl)
          ⟨ho, rfl, ⟨_, ho, rfl⟩, call_meets PySem.F.slot_tuple_mul ⟨_, ho, rfl⟩ PySem.F.entry_tuple_mul (PySem.F.args_tuple_mul_2 _ _) (tup_mul1 l its.toArray n dd sl t) ⟨ho, ?_⟩⟩)
      exact ⟨.ref l, H, I, rfl, q1 rfl⟩
    · refine wpAny_binaryOp_repeat_ref (T := "tuple") (U := "int") (by decide) ⟨_, ho, rfl⟩ (fun s' => typeIs_int s' 0 t) noFill_tuple_mul PySem.F.fills_int_mul PySem.F.slot_int_rmul repeat_tuple PySem.F.slot_int_index.lookup
        (call_meets PySem.F.slot_int_rmul (typeIs_int s 0 t) PySem.F.entry_int_rmul (PySem.F.args_int_rmul_2 _ _) (int_rmul_tuple 0 t l its.toArray n dd sl)
          ⟨ho, rfl, ⟨_, ho, rfl⟩, call_meets PySem.F.slot_tuple_mul ⟨_, ho, rfl⟩ PySem.F.entry_tuple_mul (PySem.F.args_tuple_mul_2 _ _) (tup_mul0 l its.toArray n dd sl t hi) ⟨ho, ?_⟩⟩)
      refine ⟨.ref s.heap.objs.size, _, I.laid (t' := s.toks) (o := .tup (List.replicate (0 : Int).toNat xs).flatten) (fun b ob q => Heap.get?_push_of_some _ q) (Nat.le_refl _) ?_, rfl, q2 (by decide) _ (I.hok.fresh (Nat.le_refl _))⟩
      exact ⟨Nat.zero_le _, [], .nil, IsTup.new _ _⟩
end
section
variable {X : Cx} {e a b cc : Expr} {es rest : List Expr} {pos p p2 : Pos} {ta tb tc : TD} {t : TAD}
/-! repetition -/
@[simp] def repD (x y : D) (Q : D → Prop) : Prop := match x, y with
  | .tup l, .int k => l ≠ [] ∧ l.length ≤ 1000 ∧ 0 ≤ k ∧ k ≤ 1000 ∧ Q (.tup (List.replicate k.toNat l).flatten)
  | .lst l, .int k => l.length ≤ 1000 ∧ 0 ≤ k ∧ k ≤ 1000 ∧ Q (.lst (List.replicate k.toNat l).flatten)
  | _, _ => False
theorem ppd_rep (ha : PP X a ta) (hb : PP X b tb) : PP X (.BinOp a .Mult b pos) (dBin repD ta tb) := by
  refine up_bin stP bkP ?_ (pe_op (orOp op_repA op_rep) ha hb)
  intro τ Ha Hb G H c v w x y P Q w0 r1 r2 hf q
  unfold repD at hf
  split at hf
  · obtain ⟨h1, h2, h3, h4, p⟩ := hf
    cases r2
    cases r1 with
    | @tup _ xs _ s r =>
      have hne : xs ≠ [] := fun z => by
        subst z
        cases r
        exact h1 rfl
      refine .inl ⟨_, _, _, rfl, rfl, sqT_mono w0.le s, hne, h3, h4, by rw [r.len]; exact h2, fun z => ?_, fun _ a ha => ?_⟩
      · subst z
        refine q _ _ G H p w0.refl ?_
        show Rep X.K τ G _ _
        simpa using Rep.tup s r
      · exact q _ _ _ _ p (.laid w0 ha) (.tup (.inl (.inl upd_same)) (rep_new (g_none w0 ha) (r.rep _)))
  · obtain ⟨h2, h3, h4, p⟩ := hf
    cases r2
    cases r1 with
    | @lst _ xs _ s r =>
      refine .inr ⟨_, _, _, rfl, rfl, w0.le _ _ s, by omega, by omega, ?_, fun a ha => ?_⟩
      · rw [r.len, sizeLine_eq]
        exact Nat.le_trans (Nat.mul_le_mul h2 (show Int.toNat _ ≤ 1000 by omega)) (by decide)
      · exact q _ _ _ _ p (.laid w0 ha) (.lst upd_same (rep_new (g_none w0 ha) (r.rep _)))
  · exact hf.elim

/-! calls of built-ins, by values -/
@[simp] def dCall (f : List D → (D → Prop) → Prop) (t : TAD) : TD := fun ρ c Q => t ρ c fun ds c1 => f ds fun d => Q d c1
def FC (Ra R : RR) (K : PySem.W.Frag) (f : List D → (D → Prop) → Prop) (r : List V → Hp → VK → Prop) : Prop :=
  ∀ (τ : Option Addr) (Ha G H : Hp) (c : Nat) (vs : List V) (ds : List D) (P : D → Prop) (Q : VK), W0 τ G H c → RL Ra K τ Ha G H vs ds → f ds P →
    (∀ d u G' H', P d → Step τ G H c G' H' c → R K τ H G' H' u d → Q u H') → r vs H Q
theorem up_call {Ra R : RR} {f : List D → (D → Prop) → Prop} {r : List V → Hp → VK → Prop} (zb : Back R) (hf : FC Ra R X.K f r) (h : PE X e (tCB r (upA Ra X.K t))) : PE X e (upE R X.K (dCall f t)) :=
  pe_imp h fun σ H Q ⟨τ, H0, G, ρ, c, P, w, en, p, q⟩ => ⟨τ, H0, G, ρ, c, _, w, en, p, fun ds c1 vs G1 H1 p1 s1 r1 =>
    hf τ H G1 H1 c1 vs ds _ Q (s1.w0 w) r1 p1 fun d u' G' H' p3 s3 r3 => q d c1 u' G' H' p3 (s1.trans w s3) (zb.bk w s1 r3)⟩
@[simp] def len1 (ds : List D) (Q : D → Prop) : Prop := match ds with
  | [.tup l] => Q (.int l.length)
  | [.lst l] => Q (.int l.length)
  | _ => False
theorem ppd_len (hg : Gl X "len") (hm : X.mg "len" = none) (ha : PAB X (e :: es) t) (he : starEach (e :: es) X.env = (false, eval e X.env) :: starEach es X.env := by rfl) (hpl : (backTo pos (starEach es X.env)).any (·.1) = false := by rfl) :
    PP X (.Call (.Name "len" p) (e :: es) [] pos) (dCall len1 t) := by
  refine up_call bkP ?_ (pe_callB call_len_seq hg hm boot_len ha (he := he) (hpl := hpl))
  intro τ Ha G H c vs ds P Q w0 r1 hf q
  unfold len1 at hf
  split at hf
  · cases r1 with
    | cons r1 r2 =>
      cases r2
      obtain ⟨pp, vs, rfl, h1, q1⟩ := offT r1
      refine ⟨pp, vs, rfl, .inr (sqT_mono w0.le h1), ?_⟩
      rw [q1.len]
      exact q _ _ G H hf w0.refl (.int _)
  · cases r1 with
    | cons r1 r2 =>
      cases r2
      obtain ⟨pp, vs, rfl, h1, q1⟩ := off w0 r1
      refine ⟨pp, vs, rfl, .inl (.of h1), ?_⟩
      rw [q1.len]
      exact q _ _ G H hf w0.refl (.int _)
  · exact hf.elim
@[simp] def tuple1 (ds : List D) (Q : D → Prop) : Prop := match ds with
  | [.tup l] => Q (.tup l)
  | [.lst l] => Q (.tup l)
  | _ => False
theorem ppd_tuple (hg : Gl X "tuple") (hm : X.mg "tuple" = none) (ha : PAB X (e :: es) t) (he : starEach (e :: es) X.env = (false, eval e X.env) :: starEach es X.env := by rfl) (hpl : (backTo pos (starEach es X.env)).any (·.1) = false := by rfl) :
    PP X (.Call (.Name "tuple" p) (e :: es) [] pos) (dCall tuple1 t) := by
  refine up_call bkP ?_ (pe_callTy call_tuple_of hg hm (by decide +kernel) ha (he := he) (hpl := hpl))
  intro τ Ha G H c vs ds P Q w0 r1 hf q
  unfold tuple1 at hf
  split at hf
  · cases r1 with
    | cons r1 r2 =>
      cases r2
      obtain ⟨pp, vs, rfl, h1, q1⟩ := offT r1
      exact ⟨pp, vs, rfl, .inr ⟨sqT_mono w0.le h1, q _ _ G H hf w0.refl (.tup h1 q1)⟩⟩
  · cases r1 with
    | cons r1 r2 =>
      cases r2
      obtain ⟨pp, vs, rfl, h1, q1⟩ := off w0 r1
      exact ⟨pp, vs, rfl, .inl ⟨.of h1, fun a ha => q _ _ _ _ hf (.laid w0 ha) (.tup (.inl (.inl upd_same)) (rep_new (g_none w0 ha) q1))⟩⟩
  · exact hf.elim
@[simp] def list1 (ds : List D) (Q : D → Prop) : Prop := match ds with
  | [.tup l] => Q (.lst l)
  | [.lst l] => Q (.lst l)
  | _ => False
theorem fresh_rf {K : PySem.W.Frag} {τ : Option Addr} {G H : Hp} {c : Nat} (w0 : W0 τ G H c) {a : Addr} (ha : H a = none) {vs : List V} {l : List D} (q1 : Reps K τ G vs l) : RF K τ H G (upd H a (.lst vs)) (.ref a) (.lst l) :=
  ⟨a, vs, l, rfl, rfl, upd_same, q1, g_none w0 ha, ha, t_ne w0.tn ha⟩
theorem pfd_list (hg : Gl X "list") (hm : X.mg "list" = none) (ha : PAB X (e :: es) t) (he : starEach (e :: es) X.env = (false, eval e X.env) :: starEach es X.env := by rfl) (hpl : (backTo pos (starEach es X.env)).any (·.1) = false := by rfl) :
    PF X (.Call (.Name "list" p) (e :: es) [] pos) (dCall list1 t) := by
  refine up_call bkF ?_ (pe_callTy call_list_of hg hm (by decide +kernel) ha (he := he) (hpl := hpl))
  intro τ Ha G H c vs ds P Q w0 r1 hf q
  unfold list1 at hf
  split at hf
  · cases r1 with
    | cons r1 r2 =>
      cases r2
      obtain ⟨pp, vs, rfl, h1, q1⟩ := offT r1
      exact ⟨pp, vs, rfl, .inr (sqT_mono w0.le h1), fun a ha => q _ _ _ _ hf (.laidF w0 ha) (fresh_rf w0 ha q1)⟩
  · cases r1 with
    | cons r1 r2 =>
      cases r2
      obtain ⟨pp, vs, rfl, h1, q1⟩ := off w0 r1
      exact ⟨pp, vs, rfl, .inl (.of h1), fun a ha => q _ _ _ _ hf (.laidF w0 ha) (fresh_rf w0 ha q1)⟩
  · exact hf.elim
@[simp] def abs1 (ds : List D) (Q : D → Prop) : Prop := match ds with
  | [.int i] => Q (.int (if i < 0 then -i else i))
  | _ => False
theorem ppd_abs (hg : Gl X "abs") (hm : X.mg "abs" = none) (ha : PAD X (e :: es) t) (he : starEach (e :: es) X.env = (false, eval e X.env) :: starEach es X.env := by rfl) (hpl : (backTo pos (starEach es X.env)).any (·.1) = false := by rfl) :
    PP X (.Call (.Name "abs" p) (e :: es) [] pos) (dCall abs1 t) := by
  refine up_call bkP ?_ (pe_callB call_abs hg hm (by decide +kernel) ha (he := he) (hpl := hpl))
  intro τ Ha G H c vs ds P Q w0 r1 hf q
  unfold abs1 at hf
  split at hf
  · cases r1 with
    | cons r1 r2 =>
      cases r2
      cases (show Rep X.K τ G _ _ from r1)
      exact ⟨_, rfl, q _ _ G H hf w0.refl (.int _)⟩
  · exact hf.elim
@[simp] def int1 (ds : List D) (Q : D → Prop) : Prop := match ds with
  | [.int i] => Q (.int i)
  | [.bl k] => Q (.int (if k then 1 else 0))
  | _ => False
theorem ppd_intc (hg : Gl X "int") (hm : X.mg "int" = none) (ha : PAD X (e :: es) t) (he : starEach (e :: es) X.env = (false, eval e X.env) :: starEach es X.env := by rfl) (hpl : (backTo pos (starEach es X.env)).any (·.1) = false := by rfl) :
    PP X (.Call (.Name "int" p) (e :: es) [] pos) (dCall int1 t) := by
  refine up_call bkP ?_ (pe_callTy call_int1 hg hm (by decide +kernel) ha (he := he) (hpl := hpl))
  intro τ Ha G H c vs ds P Q w0 r1 hf q
  unfold int1 at hf
  split at hf
  · cases r1 with
    | cons r1 r2 =>
      cases r2
      cases (show Rep X.K τ G _ _ from r1)
      exact .inl ⟨_, rfl, q _ _ G H hf w0.refl (.int _)⟩
  · cases r1 with
    | cons r1 r2 =>
      cases r2
      cases (show Rep X.K τ G _ _ from r1)
      exact .inr ⟨_, rfl, q _ _ G H hf w0.refl (.int _)⟩
  · exact hf.elim
@[simp] def gcd2 (ds : List D) (Q : D → Prop) : Prop := match ds with
  | [.int i, .int j] => Q (.int ((Nat.gcd i.natAbs j.natAbs : Nat) : Int))
  | _ => False
theorem ppd_gcd (hg : Gl X "gcd") (hm : X.mg "gcd" = some (.builtin "math.gcd")) (ha : PAD X (e :: es) t) (he : starEach (e :: es) X.env = (false, eval e X.env) :: starEach es X.env := by rfl) (hpl : (backTo pos (starEach es X.env)).any (·.1) = false := by rfl) :
    PP X (.Call (.Name "gcd" p) (e :: es) [] pos) (dCall gcd2 t) := by
  refine up_call bkP ?_ (pe_callBfun cr_gcd hg hm ha (he := he) (hpl := hpl))
  intro τ Ha G H c vs ds P Q w0 r1 hf q
  unfold gcd2 at hf
  split at hf
  · cases r1 with
    | cons r1 r2 =>
      cases r2 with
      | cons r2 r3 =>
        cases r3
        cases (show Rep X.K τ G _ _ from r1)
        cases (show Rep X.K τ G _ _ from r2)
        exact ⟨_, _, rfl, q _ _ G H hf w0.refl (.int _)⟩
  · exact hf.elim
@[simp] def minI2 (ds : List D) (Q : D → Prop) : Prop := match ds with
  | [.int i, .int j] => Q (.int (if j < i then j else i))
  | _ => False
theorem ppd_min2 (hc : X.calm = true) (hg : Gl X "min") (hm : X.mg "min" = none) (ha : PAD X (e :: es) t) (he : starEach (e :: es) X.env = (false, eval e X.env) :: starEach es X.env := by rfl) (hpl : (backTo pos (starEach es X.env)).any (·.1) = false := by rfl) :
    PP X (.Call (.Name "min" p) (e :: es) [] pos) (dCall minI2 t) := by
  refine up_call bkP ?_ (pe_callB (call_min2 hc) hg hm (by decide +kernel) ha (he := he) (hpl := hpl))
  intro τ Ha G H c vs ds P Q w0 r1 hf q
  unfold minI2 at hf
  split at hf
  · cases r1 with
    | cons r1 r2 =>
      cases r2 with
      | cons r2 r3 =>
        cases r3
        cases (show Rep X.K τ G _ _ from r1)
        cases (show Rep X.K τ G _ _ from r2)
        exact ⟨_, _, rfl, q _ _ G H hf w0.refl (.int _)⟩
  · exact hf.elim
def minL (ds : List D) (Q : D → Prop) : Prop := ∃ ns : List Int, ds = [.lst (ns.map D.int)] ∧ 0 < ns.length ∧ ∀ m, m ∈ ns → (∀ y, y ∈ ns → m ≤ y) → Q (.int m)
def maxL (ds : List D) (Q : D → Prop) : Prop := ∃ ns : List Int, ds = [.lst (ns.map D.int)] ∧ 0 < ns.length ∧ ∀ m, m ∈ ns → (∀ y, y ∈ ns → y ≤ m) → Q (.int m)
theorem off1 {K : PySem.W.Frag} {τ : Option Addr} {Ha G H : Hp} {c : Nat} (w0 : W0 τ G H c) {vs : List V} {l : List D} (r : RL RP K τ Ha G H vs [.lst l]) : ∃ p ws, vs = [.ref p] ∧ SqL K H p ws ∧ Reps K τ G ws l := by
  cases r with
  | cons r1 r2 =>
    cases r2
    cases (show Rep K τ G _ _ from r1) with
    | lst h r => exact ⟨_, _, rfl, .of (w0.le _ _ h), r⟩
theorem ppd_minL (hc : X.calm = true) (hg : Gl X "min") (hm : X.mg "min" = none) (ha : PAD X (e :: es) t) (he : starEach (e :: es) X.env = (false, eval e X.env) :: starEach es X.env := by rfl) (hpl : (backTo pos (starEach es X.env)).any (·.1) = false := by rfl) :
    PP X (.Call (.Name "min" p) (e :: es) [] pos) (dCall minL t) := by
  refine up_call bkP ?_ (pe_callB (cr_min hc) hg hm (by decide +kernel) ha (he := he) (hpl := hpl))
  intro τ Ha G H c vs ds P Q w0 r1 hf q
  obtain ⟨ns, rfl, h0, p⟩ := hf
  obtain ⟨a, ws, rfl, h1, q1⟩ := off1 w0 r1
  have e2 := q1.ints
  subst e2
  exact ⟨_, ns, rfl, h1, h0, fun m h2 h3 => q _ _ G H (p m h2 h3) w0.refl (.int _)⟩
theorem ppd_maxL (hc : X.calm = true) (hg : Gl X "max") (hm : X.mg "max" = none) (ha : PAD X (e :: es) t) (he : starEach (e :: es) X.env = (false, eval e X.env) :: starEach es X.env := by rfl) (hpl : (backTo pos (starEach es X.env)).any (·.1) = false := by rfl) :
    PP X (.Call (.Name "max" p) (e :: es) [] pos) (dCall maxL t) := by
  refine up_call bkP ?_ (pe_callB (cr_max hc) hg hm (by decide +kernel) ha (he := he) (hpl := hpl))
  intro τ Ha G H c vs ds P Q w0 r1 hf q
  obtain ⟨ns, rfl, h0, p⟩ := hf
  obtain ⟨a, ws, rfl, h1, q1⟩ := off1 w0 r1
  have e2 := q1.ints
  subst e2
  exact ⟨_, ns, rfl, h1, h0, fun m h2 h3 => q _ _ G H (p m h2 h3) w0.refl (.int _)⟩
def allL (ds : List D) (Q : D → Prop) : Prop := ∃ bs : List Bool, ds = [.lst (bs.map D.bl)] ∧ Q (.bl (bs.all id))
def anyL (ds : List D) (Q : D → Prop) : Prop := ∃ bs : List Bool, ds = [.lst (bs.map D.bl)] ∧ Q (.bl (bs.any id))
theorem ppd_all (hc : X.calm = true) (hg : Gl X "all") (hm : X.mg "all" = none) (ha : PAD X (e :: es) t) (he : starEach (e :: es) X.env = (false, eval e X.env) :: starEach es X.env := by rfl) (hpl : (backTo pos (starEach es X.env)).any (·.1) = false := by rfl) :
    PP X (.Call (.Name "all" p) (e :: es) [] pos) (dCall allL t) := by
  refine up_call bkP ?_ (pe_callB (cr_all hc) hg hm (by decide +kernel) ha (he := he) (hpl := hpl))
  intro τ Ha G H c vs ds P Q w0 r1 hf q
  obtain ⟨ns, rfl, p⟩ := hf
  obtain ⟨a, ws, rfl, h1, q1⟩ := off1 w0 r1
  have e2 := q1.bls
  subst e2
  exact ⟨_, ns, rfl, h1, q _ _ G H p w0.refl (.bl _)⟩
theorem ppd_any (hc : X.calm = true) (hg : Gl X "any") (hm : X.mg "any" = none) (ha : PAD X (e :: es) t) (he : starEach (e :: es) X.env = (false, eval e X.env) :: starEach es X.env := by rfl) (hpl : (backTo pos (starEach es X.env)).any (·.1) = false := by rfl) :
    PP X (.Call (.Name "any" p) (e :: es) [] pos) (dCall anyL t) := by
  refine up_call bkP ?_ (pe_callB (cr_any hc) hg hm (by decide +kernel) ha (he := he) (hpl := hpl))
  intro τ Ha G H c vs ds P Q w0 r1 hf q
  obtain ⟨ns, rfl, p⟩ := hf
  obtain ⟨a, ws, rfl, h1, q1⟩ := off1 w0 r1
  have e2 := q1.bls
  subst e2
  exact ⟨_, ns, rfl, h1, q _ _ G H p w0.refl (.bl _)⟩

/-! isinstance -/
def D.ty : D → String
  | .non => "NoneType"
  | .bl _ => "bool"
  | .int _ => "int"
  | .tup _ => "tuple"
  | .lst _ => "list"
  | _ => "dict"
theorem ty_of {K : PySem.W.Frag} {τ : Option Addr} {G H : Hp} (le : ∀ a o, G a = some o → H a = some o) {v : V} {d : D} (h : d ≠ .tin) (r : Rep K τ G v d) : TyX K H v (.type d.ty) := by
  cases r with
  | non => exact .base .non
  | bl b => exact .base (.bl b)
  | int i => exact .base (.int i)
  | tup s r =>
    rcases s with (s | ⟨o, s⟩) | ⟨o, its, n, s, hc, _⟩
    · exact .base (.tup (le _ _ s))
    · exact .fTuple (le _ _ s)
    · exact .kTuple s hc
  | lst s r => exact .base (.lst (le _ _ s))
  | dic s => exact .base (.dT (le _ _ s))
  | tin s => exact absurd rfl h
def isiB (ts : List String) (d : D) : Bool := ts.any fun t => kitB d.ty t == some true
@[simp] def isiD (ts : List String) (x : D) (Q : D → Prop) : Prop := match x with
  | .tin => False
  | .dic _ => False
  | d => Q (.bl (isiB ts d))
theorem kit_all (d : D) (hd : ∀ l, d ≠ .dic l) (h : d ≠ .tin) : ∀ t ∈ ["list", "tuple", "int", "bool", "str"], kitB d.ty t = some (kitB d.ty t == some true) := by
  cases d with
  | non => decide +kernel
  | bl b => show ∀ t ∈ ["list", "tuple", "int", "bool", "str"], kitB "bool" t = some (kitB "bool" t == some true); decide +kernel
  | int i => show ∀ t ∈ ["list", "tuple", "int", "bool", "str"], kitB "int" t = some (kitB "int" t == some true); decide +kernel
  | tup l => show ∀ t ∈ ["list", "tuple", "int", "bool", "str"], kitB "tuple" t = some (kitB "tuple" t == some true); decide +kernel
  | lst l => show ∀ t ∈ ["list", "tuple", "int", "bool", "str"], kitB "list" t = some (kitB "list" t == some true); decide +kernel
  | dic l => exact absurd rfl (hd l)
  | tin => exact absurd rfl h
theorem isi_out {ts : List String} {x : D} {P : D → Prop} (h : isiD ts x P) : (∀ l, x ≠ .dic l) ∧ x ≠ .tin ∧ P (.bl (isiB ts x)) := by
  cases x <;> first | exact h.elim | exact ⟨(fun _ z => nomatch z), (fun z => nomatch z), h⟩
/-- isinstance(x, T) -/
theorem ppd_isi {T : Expr} {n : String} {q : Pos} (hn : n ∈ ["list", "tuple", "int", "bool", "str"]) (hg : Gl X "isinstance") (hm : X.mg "isinstance" = none) (ha : PP X a ta) (hT : PE X T (tC (.ty n)))
    (he : starEach [a, T] X.env = (false, eval a X.env) :: starEach [T] X.env := by rfl) (he2 : starEach [T] X.env = (false, eval T X.env) :: starEach [] X.env := by rfl) (hpl : (backTo pos (starEach [T] X.env)).any (·.1) = false := by rfl) :
    PP X (.Call (.Name "isinstance" p) [a, T] [] pos) (dUn (isiD [n]) ta) :=
  pe_imp (pe_callB call_isi hg hm (by decide +kernel) (pa_cons ha (pa_cons hT pa_nil he2) he) (he := he) (hpl := hpl)) fun σ H Q ⟨τ, H0, G, ρ, c, P, w, en, p, q⟩ => ⟨τ, H0, G, ρ, c, _, w, en, p, fun x c1 v G1 H1 p1 s1 r1 => by
    obtain ⟨hd, ht, p2⟩ := isi_out p1
    refine ⟨v, _, _, _, _, rfl, .ty n, ty_of s1.gh ht r1, kit_ty (kit_all x hd ht n hn), ?_⟩
    have e : isiB [n] x = (kitB x.ty n == some true) := by simp [isiB]
    rw [← e]
    exact q _ c1 _ G1 H1 p2 s1 (.bl _)⟩
/-- isinstance(x, (T1, T2)) -/
theorem ppd_isi2 {T1 T2 : Expr} {n1 n2 : String} {kk : Nat} {q : Pos} (hn1 : n1 ∈ ["list", "tuple", "int", "bool", "str"]) (hn2 : n2 ∈ ["list", "tuple", "int", "bool", "str"]) (hg : Gl X "isinstance") (hm : X.mg "isinstance" = none) (ha : PP X a ta) (hT1 : PE X T1 (tC (.ty n1))) (hT2 : PE X T2 (tC (.ty n2)))
    (he : starEach [a, .Tuple [T1, T2] kk q] X.env = (false, eval a X.env) :: starEach [.Tuple [T1, T2] kk q] X.env := by rfl) (he2 : starEach [.Tuple [T1, T2] kk q] X.env = (false, eval (.Tuple [T1, T2] kk q) X.env) :: starEach [] X.env := by rfl) (hpl : (backTo pos (starEach [.Tuple [T1, T2] kk q] X.env)).any (·.1) = false := by rfl)
    (he3 : starEach [T1, T2] X.env = (false, eval T1 X.env) :: starEach [T2] X.env := by rfl) (he4 : starEach [T2] X.env = (false, eval T2 X.env) :: starEach [] X.env := by rfl) :
    PP X (.Call (.Name "isinstance" p) [a, .Tuple [T1, T2] kk q] [] pos) (dUn (isiD [n1, n2]) ta) :=
  pe_imp (pe_callB call_isiT hg hm (by decide +kernel) (pa_cons ha (pa_cons (pe_tup (pa_cons hT1 (pa_cons hT2 pa_nil he4) he3)) pa_nil he2) he) (he := he) (hpl := hpl)) fun σ H Q ⟨τ, H0, G, ρ, c, P, w, en, p, q⟩ => ⟨τ, H0, G, ρ, c, _, w, en, p, fun x c1 v G1 H1 p1 s1 r1 => by
    obtain ⟨hd, ht, p2⟩ := isi_out p1
    refine ⟨by show 2 ≤ sizeLine; decide, fun a ha => ?_⟩
    have w1 := s1.w0 w
    have s2 : Step τ G1 H1 c1 (upd G1 a (.tup [.ty n1, .ty n2])) (upd H1 a (.tup [.ty n1, .ty n2])) c1 := .laid w1 ha
    refine ⟨v, a, _, .type x.ty, [.type n1, .type n2], isiB [n1, n2] x, rfl, upd_same, .cons (.ty n1) (.cons (.ty n2) .nil), ty_of s2.gh ht (r1.mono s2.gg), ?_, ?_⟩
    · refine kitAny_cons (kit_ty (kit_all x hd ht n1 hn1)) (fun h => kitAny_cons (kit_ty (kit_all x hd ht n2 hn2)) (fun h2 => ?_) fun h2 => ?_) fun h => ?_
      · rw [kitAny_nil]; simp [isiB, h, h2]
      · simp [isiB, h2]
      · simp [isiB, h]
    · exact q _ c1 _ _ _ p2 (s1.trans w s2) (.bl _)⟩
theorem pe_tyn {n : String} {x : Str} (hx : bootBuiltins x = some (.type n)) (hg : Gl X x) (hm : X.mg x = none) (hn : x ≠ "__name__" := by decide) (hd : (x == ("__debug__" : Str)) = false := by decide) : PE X (.Name x p) (tC (.ty n)) := pe_bltn hg hm hx rfl hn hd

/-! list(range(a, b)) -/
def ivs (a b : Int) : List D := (List.range (b - a).toNat).map fun i => D.int (a + (i : Nat))
theorem reps_rg {K : PySem.W.Frag} {τ : Option Addr} {G : Hp} (a b : Int) : Reps K τ G (rgV a b) (ivs a b) := by
  unfold rgV ivs
  induction (List.range (b - a).toNat) with
  | nil => exact .nil
  | cons n r ih => exact .cons (.int _) ih
@[simp] def lrgD (x y : D) (Q : D → Prop) : Prop := match x, y with
  | .int i, .int j => 0 ≤ i ∧ i ≤ 1000000 ∧ 0 ≤ j ∧ j ≤ 1000000 ∧ Q (.lst (ivs i j))
  | _, _ => False
theorem ppd_lrange {p3 p4 : Pos} (hc : X.calm = true) (hg : Gl X "list") (hm : X.mg "list" = none) (hg2 : Gl X "range") (hm2 : X.mg "range" = none) (ha : PP X a ta) (hb : PP X b tb)
    (na : starEach [a, b] X.env = (false, eval a X.env) :: starEach [b] X.env := by rfl) (nb : starEach [b] X.env = (false, eval b X.env) :: starEach [] X.env := by rfl) (hp : (backTo p4 (starEach [b] X.env)).any (·.1) = false := by rfl)
    (nc : starEach [.Call (.Name "range" p3) [a, b] [] p4] X.env = (false, eval (.Call (.Name "range" p3) [a, b] [] p4) X.env) :: starEach [] X.env := by rfl) :
    PP X (.Call (.Name "list" p) [.Call (.Name "range" p3) [a, b] [] p4] [] pos) (dBin lrgD ta tb) := by
  refine pe_imp (pe_listRg hc hg hm (prg_2 hg2 hm2 ha hb na nb hp) nc) fun σ H Q ⟨τ, H0, G, ρ, c, P, w, en, p, q⟩ => ⟨τ, H0, G, ρ, c, _, w, en, p, fun x c1 v G1 H1 p1 s1 r1 =>
    ⟨τ, H0, G1, ρ, c1, _, s1.w0 w, en.step s1, p1, fun y c2 u G2 H2 p2 s2 r2 => ?_⟩⟩
  unfold lrgD at p2
  split at p2
  · obtain ⟨h1, h2, h3, h4, p3⟩ := p2
    cases (show Rep X.K τ G1 _ _ from r1)
    cases (show Rep X.K τ G2 _ _ from r2)
    have s12 := s1.trans w s2
    refine ⟨_, _, rfl, rfl, RgOk.of_le h1 (by omega) (by omega) h3, fun a ha => ?_⟩
    exact q _ c2 _ _ _ p3 (s12.trans w (.laid (s12.w0 w) ha)) (.lst upd_same (rep_new (g_none (s12.w0 w) ha) (reps_rg _ _)))
  · exact p2.elim
end
end Pd
end
section
set_option Elab.async false
set_option linter.all false
set_option maxRecDepth 100000
/-! PD5: what is walked; comprehensions. -/
namespace Pd
open PySem PySem.Spec PyProof.Rows L2 RZ

/-- an iterator that gives the items; strong: while all that is tracked stands -/
def ItOk (K : PySem.W.Frag) (τ : Option Addr) (strong : Bool) (J : It) (G0 H0 : Hp) (items : List D) : Prop :=
  ∀ (G H : Hp) (c : Nat), W0 τ G H c → (∀ a o, G0 a = some o → G a = some o) → (strong = true → ∀ a o, H0 a = some o → τ ≠ some a → H a = some o) →
    (∀ i : Nat, i < items.length → J.go i H) ∧ (∀ i : Nat, items.length ≤ i → J.stop i H) ∧ ∀ (i : Nat) (x : V) (H' : Hp) (d : D), items[i]? = some d → J.yld i H x H' → ∃ G', Step τ G H c G' H' c ∧ Rep K τ G' x d
def upI (strong : Bool) (K : PySem.W.Frag) (t : TAD) : TI := fun σ H R => ∃ (τ : Option Addr) (H0 G : Hp) (ρ : Rho) (c : Nat) (P : List D → Nat → Prop), W0 τ G H c ∧ EnvR K τ H0 G H σ ρ ∧ t ρ c P ∧
  ∀ items c' J G' H', P items c' → Step τ G H c G' H' c' → ItOk K τ strong J G' H' items → R J H'
abbrev PID (s : Bool) (X : Cx) (tg iter : Expr) (t : TAD) : Prop := PI X tg iter (upI s X.K t)
theorem ItOk.strong {K τ J G0 H0 items} (h : ItOk K τ false J G0 H0 items) : ItOk K τ true J G0 H0 items := fun G H c w g _ => h G H c w g fun z => nomatch z
section
variable {X : Cx} {e a b cc tg : Expr} {es : List Expr} {pos p p2 : Pos} {ta tb : TD} {t : TAD}
theorem pi_imp {iter : Expr} {t t' : TI} (h : PI X tg iter t) (i : ∀ σ H Q, t' σ H Q → t σ H Q) : PI X tg iter t' := ⟨fun pins s σ H Q I hw => h.run pins s σ H Q I (i σ H Q hw)⟩
theorem pid_strong (h : PID false X tg e t) : PID true X tg e t := pi_imp h fun σ H R ⟨τ, H0, G, ρ, c, P, w, en, ht, q⟩ => ⟨τ, H0, G, ρ, c, P, w, en, ht, fun items c' J G' H' p s r => q items c' J G' H' p s r.strong⟩
theorem it_list {K : PySem.W.Frag} {τ : Option Addr} {G0 H0 : Hp} {a : Addr} {vs : List V} {ds : List D} (h : G0 a = some (.lst vs)) (r : Reps K τ G0 vs ds) : ItOk K τ false (Itl K a) G0 H0 ds := by
  intro G H c w g _
  have hs : SqL K H a vs := .of (w.le _ _ (g _ _ h))
  have r' := r.mono g
  refine ⟨fun i hi => ?_, fun i hi => ⟨vs, hs, by rw [r.len]; exact hi⟩, fun i x H' d hd ⟨e, y⟩ => ?_⟩
  · obtain ⟨v, hv, _⟩ := r'.get (List.getElem?_eq_getElem hi)
    exact ⟨vs, v, hs, hv⟩
  · subst e
    obtain ⟨v, hv, rv⟩ := r'.get hd
    have := y vs hs
    rw [hv] at this; cases this
    exact ⟨G, w.refl, rv⟩
theorem it_listB {K : PySem.W.Frag} {τ : Option Addr} {G0 H0 : Hp} {a : Addr} {vs : List V} {ds : List D} (h : H0 a = some (.lst vs)) (n : τ ≠ some a) (r : Reps K τ G0 vs ds) : ItOk K τ true (Itl K a) G0 H0 ds := by
  intro G H c w g st
  have hs : SqL K H a vs := .of (st rfl _ _ h n)
  have r' := r.mono g
  refine ⟨fun i hi => ?_, fun i hi => ⟨vs, hs, by rw [r.len]; exact hi⟩, fun i x H' d hd ⟨e, y⟩ => ?_⟩
  · obtain ⟨v, hv, _⟩ := r'.get (List.getElem?_eq_getElem hi)
    exact ⟨vs, v, hs, hv⟩
  · subst e
    obtain ⟨v, hv, rv⟩ := r'.get hd
    have := y vs hs
    rw [hv] at this; cases this
    exact ⟨G, w.refl, rv⟩
theorem it_tup {K : PySem.W.Frag} {τ : Option Addr} {G0 H0 : Hp} {a : Addr} {vs : List V} {ds : List D} (h : SqT K G0 a vs) (r : Reps K τ G0 vs ds) : ItOk K τ false (Itt K a) G0 H0 ds := by
  intro G H c w g _
  have hs : SqT K H a vs := sqT_mono w.le (sqT_mono g h)
  have r' := r.mono g
  refine ⟨fun i hi => ?_, fun i hi => ⟨vs, hs, by rw [r.len]; exact hi⟩, fun i x H' d hd ⟨e, y⟩ => ?_⟩
  · obtain ⟨v, hv, _⟩ := r'.get (List.getElem?_eq_getElem hi)
    exact ⟨vs, v, hs, hv⟩
  · subst e
    obtain ⟨v, hv, rv⟩ := r'.get hd
    have := y vs hs
    rw [hv] at this; cases this
    exact ⟨G, w.refl, rv⟩
theorem it_range {K : PySem.W.Frag} {τ : Option Addr} {G0 H0 : Hp} (lo : Int) (n : Nat) : ItOk K τ false (Itr lo n) G0 H0 ((List.range n).map fun i => D.int (lo + (i : Nat))) := by
  intro G H c w g _
  refine ⟨fun i hi => by simpa [Itr] using hi, fun i hi => by simpa [Itr] using hi, fun i x H' d hd ⟨e, y⟩ => ?_⟩
  subst e y
  rw [List.getElem?_map] at hd
  obtain ⟨j, hj, rfl⟩ := Option.map_eq_some_iff.mp hd
  obtain ⟨hl, ej⟩ := List.getElem?_eq_some_iff.mp hj
  rw [List.getElem_range] at ej
  subst ej
  exact ⟨G, w.refl, .int _⟩
def zipD : List D → List D → List D
  | x :: xs, y :: ys => .tup [x, y] :: zipD xs ys
  | _, _ => []
theorem zipD_len : ∀ xs ys : List D, (zipD xs ys).length = min xs.length ys.length
  | [], _ => by simp [zipD]
  | _ :: _, [] => by simp [zipD]
  | x :: xs, y :: ys => by simp [zipD, zipD_len xs ys]
theorem zipD_get : ∀ {xs ys : List D} {i : Nat} {d : D}, (zipD xs ys)[i]? = some d → ∃ x y, xs[i]? = some x ∧ ys[i]? = some y ∧ d = .tup [x, y]
  | [], _, _, _, h => by simp [zipD] at h
  | _ :: _, [], _, _, h => by simp [zipD] at h
  | x :: xs, y :: ys, 0, d, h => by
    simp [zipD] at h
    exact ⟨x, y, by simp, by simp, h.symm⟩
  | x :: xs, y :: ys, i + 1, d, h => by
    have h' : (zipD xs ys)[i]? = some d := by simpa [zipD] using h
    obtain ⟨x', y', h1, h2, h3⟩ := zipD_get h'
    exact ⟨x', y', by simpa using h1, by simpa using h2, h3⟩
theorem rep_pair {K : PySem.W.Frag} {τ : Option Addr} {G H : Hp} {c : Nat} (w : W0 τ G H c) {T : Addr} {x y : V} {dx dy : D} (hT : H T = none) (rx : Rep K τ G x dx) (ry : Rep K τ G y dy) :
    ∃ G', Step τ G H c G' (upd H T (.tup [x, y])) c ∧ Rep K τ G' (.ref T) (.tup [dx, dy]) :=
  ⟨_, .laid w hT, .tup (.inl (.inl upd_same)) (rep_new (g_none w hT) (.cons rx (.cons ry .nil)))⟩
theorem it_zip {K : PySem.W.Frag} {τ : Option Addr} {G0 H0 : Hp} {a b : Addr} {vs ws : List V} {ds es : List D} (h : G0 a = some (.lst vs)) (r : Reps K τ G0 vs ds) (h2 : G0 b = some (.lst ws)) (r2 : Reps K τ G0 ws es) : ItOk K τ false (Itz K a b) G0 H0 (zipD ds es) := by
  intro G H c w g _
  have hs : SqL K H a vs := .of (w.le _ _ (g _ _ h))
  have hs2 : SqL K H b ws := .of (w.le _ _ (g _ _ h2))
  have r' := r.mono g
  have r2' := r2.mono g
  refine ⟨fun i hi => ?_, fun i hi => ⟨vs, ws, hs, hs2, ?_⟩, fun i x H' d hd ⟨T, x', y', e1, hT, e2, y1, y2⟩ => ?_⟩
  · rw [zipD_len] at hi
    obtain ⟨v, hv, _⟩ := r'.get (List.getElem?_eq_getElem (show i < ds.length by omega))
    obtain ⟨u, hu, _⟩ := r2'.get (List.getElem?_eq_getElem (show i < es.length by omega))
    exact ⟨vs, ws, v, u, hs, hs2, hv, hu⟩
  · rw [zipD_len] at hi
    rw [r.len, r2.len]; omega
  · obtain ⟨dx, dy, q1, q2, rfl⟩ := zipD_get hd
    obtain ⟨v, hv, rv⟩ := r'.get q1
    obtain ⟨u, hu, ru⟩ := r2'.get q2
    have a1 := y1 vs hs
    have a2 := y2 ws hs2
    rw [hv] at a1; cases a1
    rw [hu] at a2; cases a2
    subst e1 e2
    exact rep_pair w hT rv ru
theorem it_zipT {K : PySem.W.Frag} {τ : Option Addr} {G0 H0 : Hp} {a b : Addr} {vs ws : List V} {ds es : List D} (h : SqT K G0 a vs) (r : Reps K τ G0 vs ds) (h2 : SqT K G0 b ws) (r2 : Reps K τ G0 ws es) : ItOk K τ false (ItzT K a b) G0 H0 (zipD ds es) := by
  intro G H c w g _
  have hs : SqT K H a vs := sqT_mono w.le (sqT_mono g h)
  have hs2 : SqT K H b ws := sqT_mono w.le (sqT_mono g h2)
  have r' := r.mono g
  have r2' := r2.mono g
  refine ⟨fun i hi => ?_, fun i hi => ⟨vs, ws, hs, hs2, ?_⟩, fun i x H' d hd ⟨T, x', y', e1, hT, e2, y1, y2⟩ => ?_⟩
  · rw [zipD_len] at hi
    obtain ⟨v, hv, _⟩ := r'.get (List.getElem?_eq_getElem (show i < ds.length by omega))
    obtain ⟨u, hu, _⟩ := r2'.get (List.getElem?_eq_getElem (show i < es.length by omega))
    exact ⟨vs, ws, v, u, hs, hs2, hv, hu⟩
  · rw [zipD_len] at hi
    rw [r.len, r2.len]; omega
  · obtain ⟨dx, dy, q1, q2, rfl⟩ := zipD_get hd
    obtain ⟨v, hv, rv⟩ := r'.get q1
    obtain ⟨u, hu, ru⟩ := r2'.get q2
    have a1 := y1 vs hs
    have a2 := y2 ws hs2
    rw [hv] at a1; cases a1
    rw [hu] at a2; cases a2
    subst e1 e2
    exact rep_pair w hT rv ru
def enumD : Nat → List D → List D
  | _, [] => []
  | n, x :: xs => .tup [.int (n : Nat), x] :: enumD (n + 1) xs
theorem enumD_len : ∀ (n : Nat) (xs : List D), (enumD n xs).length = xs.length
  | _, [] => rfl
  | n, x :: xs => by simp [enumD, enumD_len (n + 1) xs]
theorem enumD_get : ∀ {n : Nat} {xs : List D} {i : Nat} {d : D}, (enumD n xs)[i]? = some d → ∃ x, xs[i]? = some x ∧ d = .tup [.int ((n + i : Nat) : Int), x]
  | _, [], _, _, h => by simp [enumD] at h
  | n, x :: xs, 0, d, h => by
    simp [enumD] at h
    exact ⟨x, by simp, by rw [← h]; rfl⟩
  | n, x :: xs, i + 1, d, h => by
    have h' : (enumD (n + 1) xs)[i]? = some d := by simpa [enumD] using h
    obtain ⟨x', h1, h2⟩ := enumD_get h'
    exact ⟨x', by simpa using h1, by rw [h2, show n + 1 + i = n + (i + 1) by omega]⟩
theorem it_enum {K : PySem.W.Frag} {τ : Option Addr} {G0 H0 : Hp} {a : Addr} {vs : List V} {ds : List D} (h : H0 a = some (.lst vs)) (n : τ ≠ some a) (r : Reps K τ G0 vs ds) : ItOk K τ true (Ite K a) G0 H0 (enumD 0 ds) := by
  intro G H c w g st
  have hs : SqL K H a vs := .of (st rfl _ _ h n)
  have r' := r.mono g
  refine ⟨fun i hi => ?_, fun i hi => ⟨vs, hs, ?_⟩, fun i x H' d hd ⟨T, x', e1, hT, e2, y1⟩ => ?_⟩
  · rw [enumD_len] at hi
    obtain ⟨v, hv, _⟩ := r'.get (List.getElem?_eq_getElem hi)
    exact ⟨vs, v, hs, hv⟩
  · rw [enumD_len] at hi
    rw [r.len]; exact hi
  · obtain ⟨dx, q1, rfl⟩ := enumD_get hd
    obtain ⟨v, hv, rv⟩ := r'.get q1
    have a1 := y1 vs hs
    rw [hv] at a1; cases a1
    subst e1 e2
    rw [Nat.zero_add]
    exact rep_pair w hT (.int _) rv

/-! sources, by data -/
@[simp] def iLst (t : TD) : TAD := fun ρ c Q => t ρ c fun d c1 => ∃ l, d = .lst l ∧ Q l c1
@[simp] def iTup (t : TD) : TAD := fun ρ c Q => t ρ c fun d c1 => ∃ l, d = .tup l ∧ Q l c1
theorem pid_list (h : PP X e ta) : PID false X tg e (iLst ta) := pi_imp (pi_list h) fun σ H R ⟨τ, H0, G, ρ, c, P, w, en, p, q⟩ => ⟨τ, H0, G, ρ, c, _, w, en, p, fun d c1 v G1 H1 ⟨l, hd, p1⟩ s1 r1 => by
  subst hd
  cases (show Rep X.K τ G1 _ _ from r1) with
  | lst h r => exact ⟨_, rfl, ⟨_, .of (s1.gh _ _ h)⟩, q l c1 _ G1 H1 p1 s1 (it_list h r)⟩⟩
theorem pid_listB (h : PB X e ta) : PID true X tg e (iLst ta) := pi_imp (pi_list h) fun σ H R ⟨τ, H0, G, ρ, c, P, w, en, p, q⟩ => ⟨τ, H0, G, ρ, c, _, w, en, p, fun d c1 v G1 H1 ⟨l, hd, p1⟩ s1 r1 => by
  subst hd
  rcases r1 with r1 | ⟨pp, vs, ds, e1, e2, h, r, n⟩
  · cases r1 with
    | lst h r => exact ⟨_, rfl, ⟨_, .of (s1.gh _ _ h)⟩, q l c1 _ G1 H1 p1 s1 (it_list h r).strong⟩
  · cases e2
    exact ⟨_, e1, ⟨_, .of h⟩, q _ c1 _ G1 H1 p1 s1 (it_listB h n r)⟩⟩
theorem pid_tup (h : PP X e ta) : PID false X tg e (iTup ta) := pi_imp (pi_tup h) fun σ H R ⟨τ, H0, G, ρ, c, P, w, en, p, q⟩ => ⟨τ, H0, G, ρ, c, _, w, en, p, fun d c1 v G1 H1 ⟨l, hd, p1⟩ s1 r1 => by
  subst hd
  cases (show Rep X.K τ G1 _ _ from r1) with
  | tup h r => exact ⟨_, rfl, ⟨_, sqT_mono s1.gh h⟩, q l c1 _ G1 H1 p1 s1 (it_tup h r)⟩⟩
/-- a list or a tuple -/
@[simp] def iSeq (t : TD) : TAD := fun ρ c Q => t ρ c fun d c1 => match d with
  | .lst l => Q l c1
  | .tup l => Q l c1
  | _ => False
theorem pi_seq {l : Expr} {tl : TE} (hl : PE X l tl) : PI X tg l (fun σ H R => tl σ H fun x H1 => ∃ a, x = .ref a ∧ ((∃ xs, SqL X.K H1 a xs) ∧ R (Itl X.K a) H1 ∨ (∃ xs, SqT X.K H1 a xs) ∧ R (Itt X.K a) H1)) := by
  refine ⟨fun pins s σ H R I h => ?_⟩
  refine thn (hl.run pins s σ H _ I h) fun v s1 ⟨x, H1, I1, r1, q1⟩ => ?_
  obtain ⟨a, e, ⟨⟨xs, hq⟩, q⟩ | ⟨⟨xs, hq⟩, q⟩⟩ := q1
  · subst e
    cases r1
    obtain ⟨its, rv, p, hz⟩ := I1.list hq
    refine wpAny_pyIter_list p.isList ?_
    refine ⟨s1.heap.objs.size, [s1.heap.objs.size], _, _, H1, rfl, I1.kept (t' := s1.toks) fun b o e => Heap.get?_push_of_some _ e, turn_list a _, ⟨_, Heap.get?_push_size _ rfl, rfl, rfl⟩, fun b hb => ?_, q⟩
    have e : b = s1.heap.objs.size := by simpa using hb
    subst e
    exact I1.fpOk (Nat.le_refl _) (I1.hok.fresh (Nat.le_refl _))
  · subst e
    cases r1
    obtain ⟨its, rv, p, hz⟩ := I1.tuple hq
    refine wpAny_pyIter_tuple (show s1.heap.IsTuple a its.toArray from p) ?_
    refine ⟨s1.heap.objs.size, [s1.heap.objs.size], _, _, H1, rfl, I1.kept (t' := s1.toks) fun b o e => Heap.get?_push_of_some _ e, turn_tuple a _, ⟨_, Heap.get?_push_size _ rfl, rfl, rfl⟩, fun b hb => ?_, q⟩
    have e : b = s1.heap.objs.size := by simpa using hb
    subst e
    exact I1.fpOk (Nat.le_refl _) (I1.hok.fresh (Nat.le_refl _))
theorem pid_seq (h : PP X e ta) : PID false X tg e (iSeq ta) := pi_imp (pi_seq h) fun σ H R ⟨τ, H0, G, ρ, c, P, w, en, p, q⟩ => ⟨τ, H0, G, ρ, c, _, w, en, p, fun d c1 v G1 H1 p1 s1 r1 => by
  split at p1
  · cases (show Rep X.K τ G1 _ _ from r1) with
    | lst h r => exact ⟨_, rfl, .inl ⟨⟨_, .of (s1.gh _ _ h)⟩, q _ c1 _ G1 H1 p1 s1 (it_list h r)⟩⟩
  · cases (show Rep X.K τ G1 _ _ from r1) with
    | tup h r => exact ⟨_, rfl, .inr ⟨⟨_, sqT_mono s1.gh h⟩, q _ c1 _ G1 H1 p1 s1 (it_tup h r)⟩⟩
  · exact p1.elim⟩
@[simp] def iRange1 (t : TAD) : TAD := fun ρ c Q => t ρ c fun ds c1 => match ds with
  | [.int n] => -(2 ^ 62) ≤ n ∧ n < 2 ^ 62 ∧ Q (ivs 0 n) c1
  | _ => False
@[simp] def iRange2 (t : TAD) : TAD := fun ρ c Q => t ρ c fun ds c1 => match ds with
  | [.int i, .int j] => (-(2 ^ 62) ≤ i ∧ i < 2 ^ 62 ∧ -(2 ^ 62) ≤ j ∧ j < 2 ^ 62) ∧ Q (ivs i j) c1
  | _ => False
theorem rl1 {K : PySem.W.Frag} {τ : Option Addr} {Ha G H : Hp} {vs : List V} {i : Int} (r : RL RP K τ Ha G H vs [.int i]) : vs = [.int i] := by
  cases r with
  | cons r1 r2 => cases r2; cases (show Rep K τ G _ _ from r1); rfl
theorem rl2 {K : PySem.W.Frag} {τ : Option Addr} {Ha G H : Hp} {vs : List V} {i j : Int} (r : RL RP K τ Ha G H vs [.int i, .int j]) : vs = [.int i, .int j] := by
  cases r with
  | cons r1 r2 =>
    cases r2 with
    | cons r2 r3 => cases r3; cases (show Rep K τ G _ _ from r1); cases (show Rep K τ G _ _ from r2); rfl
theorem pid_range1 (hg : Gl X "range") (hm : X.mg "range" = none) (ha : PAD X [a] t) (hs : starEach [a] X.env = [(false, eval a X.env)] := by rfl) : PID false X tg (.Call (.Name "range" p) [a] [] pos) (iRange1 t) :=
  pi_imp (pi_range1 hg hm ha hs) fun σ H R ⟨τ, H0, G, ρ, c, P, w, en, p, q⟩ => ⟨τ, H0, G, ρ, c, _, w, en, p, fun ds c1 vs G1 H1 p1 s1 r1 => by
    split at p1
    · rw [rl1 r1]
      refine ⟨_, rfl, p1.1, p1.2.1, q _ c1 _ G1 H1 p1.2.2 s1 ?_⟩
      unfold ivs
      rw [Int.sub_zero]
      exact it_range 0 _
    · exact p1.elim⟩
theorem pid_range2 (hg : Gl X "range") (hm : X.mg "range" = none) (ha : PAD X [a, b] t) (hs : starEach [a, b] X.env = [(false, eval a X.env), (false, eval b X.env)] := by rfl) (hs2 : starEach [b] X.env = [(false, eval b X.env)] := by rfl) : PID false X tg (.Call (.Name "range" p) [a, b] [] pos) (iRange2 t) :=
  pi_imp (pi_range2 hg hm ha hs hs2) fun σ H R ⟨τ, H0, G, ρ, c, P, w, en, p, q⟩ => ⟨τ, H0, G, ρ, c, _, w, en, p, fun ds c1 vs G1 H1 p1 s1 r1 => by
    split at p1
    · rw [rl2 r1]
      exact ⟨_, _, rfl, p1.1, q _ c1 _ G1 H1 p1.2 s1 (it_range _ _)⟩
    · exact p1.elim⟩
@[simp] def iZipD (t : TAD) : TAD := fun ρ c Q => t ρ c fun ds c1 => match ds with
  | [.lst x, .lst y] => Q (zipD x y) c1
  | [.tup x, .tup y] => Q (zipD x y) c1
  | _ => False
theorem pid_zip {elts : List Expr} {kk : Nat} {tpos : Pos} (hg : Gl X "zip") (hm : X.mg "zip" = none) (ha : PAD X [a, b] t) (hs : starEach [a, b] X.env = (false, eval a X.env) :: starEach [b] X.env := by rfl) (hpl : (backTo pos (starEach [b] X.env)).any (·.1) = false := by rfl) :
    PID false X (.Tuple elts kk tpos) (.Call (.Name "zip" p) [a, b] [] pos) (iZipD t) :=
  pi_imp (pi_zipA hg hm ha hs hpl) fun σ H R ⟨τ, H0, G, ρ, c, P, w, en, p, q⟩ => ⟨τ, H0, G, ρ, c, _, w, en, p, fun ds c1 vs G1 H1 p1 s1 r1 => by
    split at p1
    · cases r1 with
      | cons r1 r2 =>
        cases r2 with
        | cons r2 r3 =>
          cases r3
          cases (show Rep X.K τ G1 _ _ from r1) with
          | lst h r =>
            cases (show Rep X.K τ G1 _ _ from r2) with
            | lst h2 r2 => exact ⟨_, _, _, _, rfl, .inl ⟨.of (s1.gh _ _ h), .of (s1.gh _ _ h2), q _ c1 _ G1 H1 p1 s1 (it_zip h r h2 r2)⟩⟩
    · cases r1 with
      | cons r1 r2 =>
        cases r2 with
        | cons r2 r3 =>
          cases r3
          cases (show Rep X.K τ G1 _ _ from r1) with
          | tup h r =>
            cases (show Rep X.K τ G1 _ _ from r2) with
            | tup h2 r2 => exact ⟨_, _, _, _, rfl, .inr ⟨sqT_mono s1.gh h, sqT_mono s1.gh h2, q _ c1 _ G1 H1 p1 s1 (it_zipT h r h2 r2)⟩⟩
    · exact p1.elim⟩
@[simp] def iEnumD (t : TAD) : TAD := fun ρ c Q => t ρ c fun ds c1 => match ds with
  | [.lst x] => Q (enumD 0 x) c1
  | _ => False
theorem pid_enum {elts : List Expr} {kk : Nat} {tpos : Pos} (hg : Gl X "enumerate") (hm : X.mg "enumerate" = none) (ha : PAB X [a] t) (hs : starEach [a] X.env = [(false, eval a X.env)] := by rfl) :
    PID true X (.Tuple elts kk tpos) (.Call (.Name "enumerate" p) [a] [] pos) (iEnumD t) :=
  pi_imp (pi_enum hg hm ha hs) fun σ H R ⟨τ, H0, G, ρ, c, P, w, en, p, q⟩ => ⟨τ, H0, G, ρ, c, _, w, en, p, fun ds c1 vs G1 H1 p1 s1 r1 => by
    split at p1
    · cases r1 with
      | cons r1 r2 =>
        cases r2
        rcases r1 with r1 | ⟨pp, vs, ds, e1, e2, h, r, n⟩
        · cases r1 with
          | lst h r =>
            refine ⟨_, _, rfl, .of (s1.gh _ _ h), q _ c1 _ G1 H1 p1 s1 (it_enum (s1.gh _ _ h) (fun z => ?_) r)⟩
            have := (s1.w0 w).tg _ z
            rw [h] at this; cases this
        · cases e2
          subst e1
          exact ⟨_, _, rfl, .of h, q _ c1 _ G1 H1 p1 s1 (it_enum h n r)⟩
    · exact p1.elim⟩

/-! targets -/
abbrev TGD := D → Rho → (Rho → Prop) → Prop
/-- a target by data; is: the places that it stores -/
def GOk (K : PySem.W.Frag) (g : TG) (gd : TGD) (js : List Nat) : Prop :=
  ∀ (τ : Option Addr) (H0 G H : Hp) (c : Nat) (σ : L2.St) (ρ : Rho) (v : V) (d : D) (N : Rho → Prop) (Q : L2.St → Hp → Prop), W0 τ G H c → EnvR K τ H0 G H σ ρ → Rep K τ G v d → gd d ρ N →
    (∀ σ' ρ', N ρ' → EnvR K τ H0 G H σ' ρ' → (∀ vs : List Nat, (∀ i ∈ js, i ∈ vs) → wipe σ' vs = wipe σ vs) → Q σ' H) → g v σ H Q
@[simp] def gN (i : Nat) : TGD := fun d ρ Q => Q (ρ.set i (.va d))
theorem wipe_set {σ : L2.St} {i : Nat} {x : Option V} : ∀ {vs : List Nat}, i ∈ vs → wipe (σ.set i x) vs = wipe σ vs
  | [], h => nomatch h
  | v :: vs, h => by
    unfold wipe
    by_cases e : i ∈ vs
    · rw [wipe_set e]
    · have ev : i = v := by
        rcases List.mem_cons.mp h with h | h
        · exact h
        · exact absurd h e
      subst ev
      have out : ∀ (ws : List Nat) (σ : L2.St), i ∉ ws → wipe (σ.set i x) ws = (wipe σ ws).set i x := by
        intro ws
        induction ws with
        | nil => intro σ _; rfl
        | cons w ws ih =>
          intro σ hn
          have h1 : w ≠ i := fun z => hn (by rw [z]; exact List.mem_cons_self)
          unfold wipe
          rw [ih σ fun z => hn (List.mem_cons_of_mem _ z), List.set_comm _ _ (Ne.symm h1)]
      rw [out vs σ e, List.set_set]
theorem gok_name (i : Nat) : GOk X.K (gName i) (gN i) [i] := fun τ H0 G H c σ ρ v d N Q w en r h q => q _ _ h (en.setva r) fun vs hv => wipe_set (hv i (by simp))
/-- several targets -/
def GsOk (K : PySem.W.Frag) (g : TGs) (gd : List D → Rho → (Rho → Prop) → Prop) (js : List Nat) : Prop :=
  ∀ (τ : Option Addr) (H0 G H : Hp) (c : Nat) (σ : L2.St) (ρ : Rho) (vs : List V) (ds : List D) (N : Rho → Prop) (Q : L2.St → Hp → Prop), W0 τ G H c → EnvR K τ H0 G H σ ρ → Reps K τ G vs ds → gd ds ρ N →
    (∀ σ' ρ', N ρ' → EnvR K τ H0 G H σ' ρ' → (∀ vs : List Nat, (∀ i ∈ js, i ∈ vs) → wipe σ' vs = wipe σ vs) → Q σ' H) → g vs σ H Q
@[simp] def gsNil : List D → Rho → (Rho → Prop) → Prop := fun ds ρ Q => match ds with
  | [] => Q ρ
  | _ => False
@[simp] def gsCons (g : TGD) (r : List D → Rho → (Rho → Prop) → Prop) : List D → Rho → (Rho → Prop) → Prop := fun ds ρ Q => match ds with
  | d :: l => g d ρ fun ρ' => r l ρ' Q
  | [] => False
theorem gsok_nil : GsOk X.K gNil gsNil [] := fun τ H0 G H c σ ρ vs ds N Q w en r h q => by
  unfold gsNil at h
  split at h
  · cases r
    exact ⟨rfl, q σ ρ h en fun _ _ => rfl⟩
  · exact h.elim
theorem gsok_cons {g : TG} {gd : TGD} {js ks : List Nat} {u : TGs} {ud : List D → Rho → (Rho → Prop) → Prop} (h1 : GOk X.K g gd js) (h2 : GsOk X.K u ud ks) : GsOk X.K (gCons g u) (gsCons gd ud) (js ++ ks) := fun τ H0 G H c σ ρ vs ds N Q w en r h q => by
  unfold gsCons at h
  split at h
  · rename_i d l
    cases r with
    | cons r t =>
     exact ⟨_, _, rfl, h1 τ H0 G H c σ ρ _ d _ _ w en r h fun σ1 ρ1 n1 e1 k1 => h2 τ H0 G H c σ1 ρ1 _ l N Q w e1 t n1 fun σ2 ρ2 n2 e2 k2 => q σ2 ρ2 n2 e2 fun vs hv =>
      (k2 vs fun i hi => hv i (List.mem_append_right _ hi)).trans (k1 vs fun i hi => hv i (List.mem_append_left _ hi))⟩
  · exact h.elim
@[simp] def gT (n : Nat) (gs : List D → Rho → (Rho → Prop) → Prop) : TGD := fun d ρ Q => match d with
  | .tup l => l.length = n ∧ gs l ρ Q
  | _ => False
theorem gok_tup {n : Nat} {g : TGs} {gd : List D → Rho → (Rho → Prop) → Prop} {js : List Nat} (h : GsOk X.K g gd js) : GOk X.K (gTup X.K n g) (gT n gd) js := fun τ H0 G H c σ ρ v d N Q w en r hd q => by
  unfold gT at hd
  split at hd
  · rename_i l
    obtain ⟨hl, hd⟩ := hd
    cases r with
    | tup s r => exact ⟨_, _, rfl, sqT_mono w.le s, by rw [r.len]; exact hl, h τ H0 G H c σ ρ _ l N Q w en r hd q⟩
  · exact hd.elim

/-! comprehensions -/
def lcT (g : TGD) (tt : TTD) (te : TD) : List D → Rho → Nat → List D → (List D → Nat → Prop) → Prop
  | [], _, c, acc, Q => Q acc c
  | x :: xs, ρ, c, acc, Q => g x ρ fun ρ1 => tt ρ1 c fun k c1 => if k = true then te ρ1 c1 fun y c2 => lcT g tt te xs ρ c2 (acc ++ [y]) Q else lcT g tt te xs ρ c1 acc Q
@[simp] def dLc (ti : TAD) (g : TGD) (tt : TTD) (te : TD) (vs : List Nat) : TD := fun ρ c Q => ti ρ c fun items c1 => items.length ≤ 1000000 ∧ lcT g tt te items (forgetR ρ vs) c1 [] fun acc c2 => Q (.lst acc) c2
@[simp] def yesD : TTD := fun _ c Q => Q true c
theorem ent_lc {g : TG} {gd : TGD} {js vs : List Nat} {ti : TAD} {tt : TTD} {te : TD} (hg : GOk X.K g gd js) (hj : ∀ i ∈ js, i ∈ vs) :
    ∀ σ H Q, upE RF X.K (dLc ti gd tt te vs) σ H Q → tLc (upI true X.K ti) g (upT X.K tt) (upE RP X.K te) vs σ H Q := by
  intro σ H Q ⟨τ, H0, G, ρ, c, P, w, en, p, q⟩
  refine ⟨τ, H0, G, ρ, c, _, w, en, p, fun items c1 J G1 H1 ⟨hlen, p1⟩ s1 it D hD => ?_⟩
  have w1 := s1.w0 w
  have en1 := en.step s1
  have nD : τ ≠ some D := t_ne s1.tn hD
  have gD := g_none w1 hD
  refine ⟨fun i m Hx => ∃ Gx cx acc us, m = items.length - i ∧ i ≤ items.length ∧ Step τ G1 H1 c1 Gx Hx cx ∧ Hx D = some (.lst us) ∧ Gx D = none ∧ Reps X.K τ Gx us acc ∧ acc.length ≤ i ∧
    lcT gd tt te (items.drop i) (forgetR ρ vs) cx acc (fun acc c2 => P (.lst acc) c2), ⟨items.length, G1, c1, [], [], by simp, Nat.zero_le _, .laidF w1 hD, upd_same, gD, .nil, Nat.zero_le _, by simpa using p1⟩, ?_⟩
  rintro i m Hx ⟨Gx, cx, acc, us, rfl, hi, sx, hDx, gDx, rx, hax, px⟩
  have wx := sx.w0 w1
  obtain ⟨go, stop, yl⟩ := it Gx Hx cx wx sx.gg (fun _ => sx.hh)
  by_cases hlt : i < items.length
  · refine .inr ⟨go i hlt, _, fun H' h => h, fun x H' hy => ?_⟩
    · rw [List.drop_eq_getElem_cons hlt] at px
      obtain ⟨G2, s2, r2⟩ := yl i x H' items[i] (List.getElem?_eq_getElem hlt) hy
      have s12 := sx.trans w1 s2
      refine hg τ H0 G2 H' cx (wipe σ vs) (forgetR ρ vs) x items[i] _ _ (s12.w0 w1) ((en1.forget vs).step s12) r2 px fun σ3 ρ3 p3 e3 k3 => ?_
      refine ⟨?_, τ, H0, G2, ρ3, cx, _, s12.w0 w1, e3, p3, fun k c4 G4 H4 p4 s4 => ?_⟩
      · have ww : ∀ vs' : List Nat, (∀ i ∈ js, i ∈ vs') → wipe σ3 vs' = wipe (wipe σ vs) vs' := k3
        rw [ww vs hj]
        have idem : ∀ (ws : List Nat) (i : Nat) (σ : L2.St), wipe (σ.set i none) ws = (wipe σ ws).set i none := by
          intro ws
          induction ws with
          | nil => intro i σ; rfl
          | cons w ws ih =>
            intro i σ
            unfold wipe
            rw [ih]
            by_cases hw : w = i
            · subst hw; rfl
            · rw [List.set_comm _ _ (Ne.symm hw)]
        have : ∀ (ws : List Nat) (σ : L2.St), wipe (wipe σ ws) ws = wipe σ ws := by
          intro ws
          induction ws with
          | nil => intro σ; rfl
          | cons w ws ih =>
            intro σ
            show (wipe ((wipe σ ws).set w none) ws).set w none = (wipe σ ws).set w none
            rw [idem, ih, List.set_set]
        exact this vs σ
      · have s14 := s12.trans w1 s4
        have s24 := s2.trans wx s4
        have hD4 : H4 D = some (.lst us) := s24.hh _ _ hDx nD
        have gD4 : G4 D = none := s24.gn _ gDx (.l hDx)
        cases k with
        | false =>
          rw [if_neg Bool.false_ne_true] at p4
          exact iteF ⟨items.length - (i + 1), by omega, G4, c4, acc, us, rfl, hlt, s14, hD4, gD4, rx.mono s24.gg, by omega, p4⟩
        | true =>
          rw [if_pos rfl] at p4
          refine iteT ⟨τ, H0, G4, ρ3, c4, _, s14.w0 w1, e3.step s4, p4, fun y c5 u G5 H5 p5 s5 r5 => ?_⟩
          have s25 := s24.trans wx s5
          have s15 := s14.trans w1 s5
          have hD5 : H5 D = some (.lst us) := s25.hh _ _ hDx nD
          have gD5 : G5 D = none := s25.gn _ gDx (.l hDx)
          refine ⟨us, hD5, ?_, items.length - (i + 1), by omega, G5, c5, acc ++ [y], us ++ [u], rfl, hlt, s15.write gD5 hD nD, upd_same, gD5, (rx.mono s25.gg).app (.cons r5 .nil), ?_, p5⟩
          · rw [rx.len]; exact big_lt (by omega)
          · rw [List.length_append, List.length_singleton]; omega
  · have e : i = items.length := by omega
    subst e
    refine .inl ⟨stop _ (Nat.le_refl _), ?_⟩
    rw [List.drop_length] at px
    exact q _ cx _ Gx Hx px (s1.trans w sx) ⟨D, us, acc, rfl, rfl, hDx, rx, gDx, Classical.byContradiction fun k => s1.still w.tn k hD, nD⟩
/-- tests of a comprehension -/
abbrev PTsD (X : Cx) (ifs : List Expr) (t : TTD) : Prop := PTs X ifs (upT X.K t)
theorem ptsd_nil : PTsD X [] yesD := ⟨fun pins s σ H Q I ⟨τ, H0, G, ρ, c, P, w, en, p, q⟩ => pts_nil.run pins s σ H Q I (q true c G H p w.refl)⟩
theorem ptsd_one {c : Expr} {t : TTD} (h : PTD X c t) : PTsD X [c] t := pts_one h
end
section
variable {X : Cx} {elt tg iter : Expr} {ifs : List Expr} {scope : Scope} {own : List (Str × Nat)} {pos : Pos}
theorem pfd_lc {vs : List Nat} {ti : TAD} {g : TG} {gd : TGD} {js : List Nat} {tt : TTD} {te : TD} (hc : X.calm = true) (hN : X.N.Nodup) (hvs : own.map (·.2) = vs) (hi : PID true X tg iter ti) (ok : BlkOk X.N X.env.scope scope own)
    (hg : ∀ (s : Shared) (H : Hp) (C : Addr) (cl : List (Str × Addr)) (fp : List Addr), PG (X.blk s H scope (compEnvC scope cl C X.env) fp) tg g) (hgd : GOk X.K g gd js) (hj : ∀ i ∈ js, i ∈ own.map (·.2))
    (ht : ∀ (s : Shared) (H : Hp) (C : Addr) (cl : List (Str × Addr)) (fp : List Addr), PTsD (X.blk s H scope (compEnvC scope cl C X.env) fp) ifs tt)
    (he : ∀ (s : Shared) (H : Hp) (C : Addr) (cl : List (Str × Addr)) (fp : List Addr), PP (X.blk s H scope (compEnvC scope cl C X.env) fp) elt te) (hs : ∀ x, foldedSetIterable iter X.env x = pure x := by intro _; rfl) :
    PF X (.ListComp elt [⟨tg, iter, ifs, 0⟩] scope pos) (dLc ti gd tt te vs) := by
  subst hvs
  exact pe_imp (pe_lc hc hN hi ok hg ht he hs) (ent_lc hgd hj)
end
end Pd
end
section
set_option Elab.async false
set_option linter.all false
set_option maxRecDepth 100000
/-! PD6: statements, defs. -/
namespace Pd
open PySem PySem.Spec PyProof.Rows L2 RZ

abbrev TSD := Rho → Nat → (Rho → Nat → Prop) → (D → Nat → Prop) → Prop
def upS (K : PySem.W.Frag) (τ : Option Addr) (G0 H0 : Hp) (c0 : Nat) (t : TSD) : TS := fun E σ H => ∃ (G : Hp) (ρ : Rho) (c : Nat) (N : Rho → Nat → Prop) (R : D → Nat → Prop), W0 τ G0 H0 c0 ∧ Step τ G0 H0 c0 G H c ∧ EnvR K τ H0 G H σ ρ ∧ t ρ c N R ∧
  (∀ ρ' c' σ' G' H', N ρ' c' → Step τ G0 H0 c0 G' H' c' → (∀ a o, G a = some o → G' a = some o) → EnvR K τ H0 G' H' σ' ρ' → E.nx σ' H') ∧
  (∀ d c' v G' H', R d c' → Step τ G0 H0 c0 G' H' c' → Rep K τ G' v d → E.rt v H')
abbrev PSD (X : Cx) (τ : Option Addr) (G0 H0 : Hp) (c0 : Nat) (st : Stmt) (t : TSD) : Prop := PS X st (upS X.K τ G0 H0 c0 t)
abbrev PSsD (X : Cx) (τ : Option Addr) (G0 H0 : Hp) (c0 : Nat) (sts : List Stmt) (t : TSD) : Prop := PSs X sts (upS X.K τ G0 H0 c0 t)
section
variable {X : Cx} {τ : Option Addr} {G0 H0 : Hp} {c0 : Nat} {st : Stmt} {sts rest : List Stmt} {e e2 e3 cc : Expr} {pos : Pos} {te ta tb tc : TD} {t u : TSD}
theorem ps_imp {t t' : TS} (h : PS X st t) (i : ∀ D σ H, t' D σ H → t D σ H) : PS X st t' := ⟨fun pins s σ H Q I hw => h.run pins s σ H Q I (i Q σ H hw)⟩
theorem pss_imp {t t' : TS} (h : PSs X sts t) (i : ∀ D σ H, t' D σ H → t D σ H) : PSs X sts t' := ⟨fun pins s σ H Q I hw => h.run pins s σ H Q I (i Q σ H hw)⟩
theorem ent_pf {K : PySem.W.Frag} {t : TD} : ∀ σ H Q, upE RP K t σ H Q → upE RF K t σ H Q := fun σ H Q ⟨τ, H0, G, ρ, c, P, w, en, ht, q⟩ => ⟨τ, H0, G, ρ, c, P, w, en, ht, fun d c' v G' H' p s r => by
  obtain ⟨a, vs, ds, rfl, rfl, ha, r, g, hp, n⟩ := r
  have m : ∀ b o, G' b = some o → upd G' a (.lst vs) b = some o := fun b o h => by rw [upd_ne (ne_of_none h g)]; exact h
  refine q _ c' _ (upd G' a (.lst vs)) H' p ⟨fun b o h => m b o (s.gg b o h), fun b o h => ?_, s.hh, fun b h k => ?_, s.tn⟩ (.lst upd_same (r.mono m))
  · by_cases z : b = a
    · subst z; rw [upd_same] at h; rw [← h]; exact ha
    · rw [upd_ne z] at h; exact s.gh b o h
  · rw [upd_ne (fun z => k.ne (by rw [z]; exact hp))]; exact s.gn b h k⟩

@[simp] def sSkip : TSD := fun ρ c N _ => N ρ c
@[simp] def sSeq (t u : TSD) : TSD := fun ρ c N R => t ρ c (fun ρ' c' => u ρ' c' N R) R
theorem pssd_nil : PSsD X τ G0 H0 c0 [] sSkip := pss_imp pss_nil fun D σ H ⟨G, ρ, c, N, R, w, s, en, p, q, r⟩ => q ρ c σ G H p s (fun _ _ h => h) en
theorem pssd_cons (h1 : PSD X τ G0 H0 c0 st t) (h2 : PSsD X τ G0 H0 c0 rest u) : PSsD X τ G0 H0 c0 (st :: rest) (sSeq t u) :=
  pss_imp (pss_cons h1 h2) fun D σ H ⟨G, ρ, c, N, R, w, s, en, p, q, r⟩ => ⟨G, ρ, c, _, R, w, s, en, p, fun ρ' c' σ' G' H' n s' g' en' => ⟨G', ρ', c', N, R, w, s', en', n, fun ρ2 c2 σ2 G2 H2 n2 s2 g2 en2 => q ρ2 c2 σ2 G2 H2 n2 s2 (fun a o h => g2 a o (g' a o h)) en2, r⟩, r⟩
theorem pssd_one (h1 : PSD X τ G0 H0 c0 st t) : PSsD X τ G0 H0 c0 [st] t := pss_one h1
/-- a list of one's own is one's own no more -/
@[simp] def frz (ρ : Rho) (i : Nat) : Rho := match ρ[i]? with
  | some (.ow l) => ρ.set i (.va (.lst l))
  | some (.od l) => ρ.set i (.va (.dic l))
  | _ => ρ
@[simp] def sFrz (i : Nat) (t : TSD) : TSD := fun ρ c N R => t (frz ρ i) c N R
theorem Step.frz {G H : Hp} {c : Nat} (s : Step τ G0 H0 c0 G H c) {p : Addr} {o : HO} (hp : H p = some o) (hg : G p = none) (hz : H0 p = none) : Step τ G0 H0 c0 (upd G p o) H c where
  gg := fun a x h => by
    have := s.gg a x h
    rw [upd_ne (ne_of_none this hg)]; exact this
  gh := fun a x h => by
    by_cases z : a = p
    · subst z; rw [upd_same] at h; rw [← h]; exact hp
    · rw [upd_ne z] at h; exact s.gh a x h
  hh := s.hh
  gn := fun a h k => by
    rw [upd_ne (fun z => k.ne (by rw [z]; exact hz))]; exact s.gn a h k
  tn := s.tn
theorem EnvR.frz {K : PySem.W.Frag} {G H : Hp} {σ : L2.St} {ρ : Rho} (en : EnvR K τ H0 G H σ ρ) {i : Nat} {s : Sl} {p : Addr} {o : HO} {d : D} (h : ρ[i]? = some s) (so : s.own = true) (hs : σ[i]? = some (some (.ref p))) (hg : G p = none)
    (r : Rep K τ (upd G p o) (.ref p) d) : EnvR K τ H0 (upd G p o) H σ (ρ.set i (.va d)) where
  len := by simpa using en.len
  va := fun j d' hh => by
    rcases getset hh with ⟨rfl, q⟩ | ⟨n, q⟩
    · cases q; exact ⟨_, hs, r⟩
    · obtain ⟨v, a, r'⟩ := en.va j d' q
      exact ⟨v, a, rep_mono' hg r'⟩
  ow := fun j l hh => by
    rcases getset hh with ⟨rfl, q⟩ | ⟨n, q⟩
    · cases q
    · obtain ⟨p2, vs, a, b, r', g, z, nn⟩ := en.ow j l q
      refine ⟨p2, vs, a, b, reps_mono' hg r', ?_, z, nn⟩
      rw [upd_ne ?_]; exact g
      rintro rfl
      exact n (en.ap j i _ _ p2 q h rfl so a hs)
  od := fun j l hh => by
    rcases getset hh with ⟨rfl, q⟩ | ⟨n, q⟩
    · cases q
    · obtain ⟨p2, a, b, g, z, nn⟩ := en.od j l q
      refine ⟨p2, a, b, ?_, z, nn⟩
      rw [upd_ne ?_]; exact g
      rintro rfl
      exact n (en.ap j i _ _ p2 q h rfl so a hs)
  ap := fun j k s' t' p' h1 h2 o1 o2 a1 a2 => by
    rcases getset h1 with ⟨rfl, q⟩ | ⟨n1, q1⟩
    · subst q; cases o1
    · rcases getset h2 with ⟨rfl, q⟩ | ⟨n2, q2⟩
      · subst q; cases o2
      · exact en.ap j k s' t' p' q1 q2 o1 o2 a1 a2
where
  rep_mono' {K : PySem.W.Frag} {τ : Option Addr} {G : Hp} {p : Addr} {o : HO} {v : V} {d : D} (hg : G p = none) (r : Rep K τ G v d) : Rep K τ (upd G p o) v d := r.mono fun b x h => by rw [upd_ne (ne_of_none h hg)]; exact h
  reps_mono' {K : PySem.W.Frag} {τ : Option Addr} {G : Hp} {p : Addr} {o : HO} {v : List V} {d : List D} (hg : G p = none) (r : Reps K τ G v d) : Reps K τ (upd G p o) v d := r.mono fun b x h => by rw [upd_ne (ne_of_none h hg)]; exact h
theorem pssd_frz (i : Nat) (h : PSsD X τ G0 H0 c0 sts t) : PSsD X τ G0 H0 c0 sts (sFrz i t) := pss_imp h fun D σ H ⟨G, ρ, c, N, R, w, s, en, p, q, r⟩ => by
  unfold sFrz Pd.frz at p
  split at p
  · rename_i l hl
    obtain ⟨a, vs, hs, ha, rr, g, z, n⟩ := en.ow i l hl
    have m : ∀ b x, G b = some x → upd G a (.lst vs) b = some x := fun b x h => by rw [upd_ne (ne_of_none h g)]; exact h
    exact ⟨upd G a (.lst vs), _, c, N, R, w, s.frz ha g z, en.frz hl rfl hs g (.lst upd_same (rr.mono m)), p, fun ρ' c' σ' G' H' n' s' g' en' => q ρ' c' σ' G' H' n' s' (fun b x h => g' b x (m b x h)) en', r⟩
  · rename_i l hl
    obtain ⟨a, hs, ha, g, z, n⟩ := en.od i l hl
    have m : ∀ b x, G b = some x → upd G a (.dT (dKV l)) b = some x := fun b x h => by rw [upd_ne (ne_of_none h g)]; exact h
    exact ⟨upd G a (.dT (dKV l)), _, c, N, R, w, s.frz ha g z, en.frz hl rfl hs g (.dic upd_same), p, fun ρ' c' σ' G' H' n' s' g' en' => q ρ' c' σ' G' H' n' s' (fun b x h => g' b x (m b x h)) en', r⟩
  · exact ⟨G, ρ, c, N, R, w, s, en, p, q, r⟩

/-! kinds of what is stored -/
inductive Kd where
  | va | ow | od
def RD : RR := fun K τ H G' H' v d => ∃ p l, v = .ref p ∧ d = .dic l ∧ H' p = some (.dT (dKV l)) ∧ G' p = none ∧ H p = none ∧ τ ≠ some p
def Kd.rr : Kd → RR
  | .va => RP
  | .ow => RF
  | .od => RD
@[simp] def Kd.sl : Kd → D → Sl
  | .va, d => .va d
  | .ow, .lst l => .ow l
  | .od, .dic l => .od l
  | _, _ => .no
theorem stK : ∀ k : Kd, Stab k.rr
  | .va => stP
  | .ow => ⟨fun r s => by
    obtain ⟨p, vs, ds, e1, e2, h, r, g, hp, n⟩ := r
    exact ⟨p, vs, ds, e1, e2, s.hh _ _ h n, r.mono s.gg, s.gn p g (.l h), hp, n⟩⟩
  | .od => ⟨fun r s => by
    obtain ⟨p, l, e1, e2, h, g, hp, n⟩ := r
    exact ⟨p, l, e1, e2, s.hh _ _ h n, s.gn p g (.t h), hp, n⟩⟩
/-- a name takes what an expression gave -/
theorem EnvR.setk {K : PySem.W.Frag} {G H G' H' : Hp} {c c' : Nat} {σ : L2.St} {ρ : Rho} (k : Kd) (z : ∀ a, H a = none → H0 a = none) (en : EnvR K τ H0 G H σ ρ) (s : Step τ G H c G' H' c') {v : V} {d : D} (r : k.rr K τ H G' H' v d) (i : Nat) :
    EnvR K τ H0 G' H' (σ.set i (some v)) (ρ.set i (k.sl d)) := by
  cases k with
  | va => exact (en.step s).setva r
  | ow =>
    obtain ⟨p, vs, ds, rfl, rfl, h, r, g, hp, n⟩ := r
    exact en.setown (en.step s) hp (z p hp) n g rfl (.inl ⟨ds, vs, rfl, h, r⟩)
  | od =>
    obtain ⟨p, l, rfl, rfl, h, g, hp, n⟩ := r
    exact en.setown (en.step s) hp (z p hp) n g rfl (.inr ⟨l, rfl, h⟩)
theorem Step.zz {G H : Hp} {c : Nat} (w : W0 τ G0 H0 c0) (s : Step τ G0 H0 c0 G H c) : ∀ a, H a = none → H0 a = none := fun a h => Classical.byContradiction fun k => s.still w.tn k h
@[simp] def sSet (k : Kd) (i : Nat) (te : TD) : TSD := fun ρ c N _ => te ρ c fun d c1 => N (ρ.set i (k.sl d)) c1
theorem ent_set {k : Kd} {i : Nat} : ∀ D σ H, upS X.K τ G0 H0 c0 (sSet k i te) D σ H → tAsg (upE k.rr X.K te) (gName i) D σ H := fun D σ H ⟨G, ρ, c, N, R, w, s, en, p, q, r⟩ =>
  ⟨τ, H0, G, ρ, c, _, s.w0 w, en, p, fun d c' v G' H' p' s' r' => q _ c' _ G' H' p' (s.trans w s') s'.gg (en.setk k (s.zz w) s' r' i)⟩
theorem psd_set {k : Kd} {i : Nat} {x : Str} {pos' : Pos} (hN : X.N.Nodup) (hi : X.N[i]? = some x) (hx : Loc X.env.scope x) (he : PE X e (upE k.rr X.K te)) (hs : swapsWith e (some (.Name x pos')) pos.line X.env = pure false := by rfl) (hf : X.fn x = true ∨ X.env.scope.names.lookup x = some .local := by first | exact .inl rfl | exact .inr rfl | assumption) :
    PSD X τ G0 H0 c0 (.Assign [.Name x pos'] e pos) (sSet k i te) := ps_imp (ps_set hN hi hx he hs hf) ent_set
theorem psd_setLc {vs : List Nat} {k : Kd} {i : Nat} {y : Str} {py : Pos} {elt tg iter : Expr} {ifs : List Expr} {scope : Scope} {own : List (Str × Nat)} {pos spos : Pos} {ti : TAD} {g : TG} {gd : TGD} {js : List Nat} {tt : TTD} {te : TD} (kk : k = .va ∨ k = .ow) (hc : X.calm = true) (hN : X.N.Nodup) (hy : X.N[i]? = some y) (hyl : X.env.scope.names.lookup y = some .local)
    (hsw : swapsWith (.ListComp elt [⟨tg, iter, ifs, 0⟩] scope pos) (some (.Name y py)) spos.line X.env = pure true) (hvs : own.map (·.2) = vs) (hi : PID true X tg iter ti) (ok : BlkOk X.N X.env.scope scope own)
    (hg : ∀ (s : Shared) (H : Hp) (C : Addr) (cl : List (Str × Addr)) (fp : List Addr), PG (X.blk s H scope (compEnvC scope cl C X.env) fp) tg g) (hgd : GOk X.K g gd js) (hj : ∀ i ∈ js, i ∈ own.map (·.2))
    (ht : ∀ (s : Shared) (H : Hp) (C : Addr) (cl : List (Str × Addr)) (fp : List Addr), PTsD (X.blk s H scope (compEnvC scope cl C X.env) fp) ifs tt)
    (he : ∀ (s : Shared) (H : Hp) (C : Addr) (cl : List (Str × Addr)) (fp : List Addr), PP (X.blk s H scope (compEnvC scope cl C X.env) fp) elt te) (hs : ∀ x, foldedSetIterable iter X.env x = pure x := by intro _; rfl) :
    PSD X τ G0 H0 c0 (.Assign [.Name y py] (.ListComp elt [⟨tg, iter, ifs, 0⟩] scope pos) spos) (sSet k i (dLc ti gd tt te vs)) := by
  subst hvs
  exact ps_imp (ps_setLc hc hN hy hyl hsw hi ok hg ht he hs) fun D σ H h => by
      rcases kk with rfl | rfl
      · exact ent_lc hgd hj σ H _ (ent_pf σ H _ (ent_set D σ H h))
      · exact ent_lc hgd hj σ H _ (ent_set D σ H h)
@[simp] def sPar (k1 k2 : Kd) (i j : Nat) (ta tb : TD) : TSD := fun ρ c N _ => ta ρ c fun x c1 => tb ρ c1 fun y c2 => N ((ρ.set i (k1.sl x)).set j (k2.sl y)) c2
theorem psd_par {k1 k2 : Kd} {i j : Nat} {x y : Str} {px py pt : Pos} {kt kt2 pt2} (hc : X.calm = true) (hN : X.N.Nodup) (hi : X.N[i]? = some x) (hj : X.N[j]? = some y) (hij : i ≠ j)
    (hx : X.env.scope.names.lookup x = some .local) (hy : X.env.scope.names.lookup y = some .local) (ha : PE X e (upE k1.rr X.K ta)) (hb : PE X e2 (upE k2.rr X.K tb))
    (hw : swappedStores [.Tuple [.Name x px, .Name y py] kt pt] (.Tuple [e, e2] kt2 pt2) X.env = pure (some [x, y]))
    (hs : swapsWithSole [.Tuple [.Name x px, .Name y py] kt pt] (.Tuple [e, e2] kt2 pt2) pos.line X.env = pure false := by rfl)
    (h1 : starEach [e, e2] X.env = (false, eval e X.env) :: starEach [e2] X.env := by rfl) (h2 : starEach [e2] X.env = (false, eval e2 X.env) :: starEach [] X.env := by rfl) :
    PSD X τ G0 H0 c0 (.Assign [.Tuple [.Name x px, .Name y py] kt pt] (.Tuple [e, e2] kt2 pt2) pos) (sPar k1 k2 i j ta tb) :=
  ps_imp (ps_par hc hN hi hj hij hx hy (pa_cons ha (pa_cons hb pa_nil h2) h1) hw hs) fun D σ H ⟨G, ρ, c, N, R, w, s, en, p, q, r⟩ =>
    ⟨τ, H0, G, ρ, c, _, s.w0 w, en, p, fun x1 c1 v1 G1 H1 p1 s1 r1 => ⟨τ, H0, G1, ρ, c1, _, (s.trans w s1).w0 w, en.step s1, p1, fun x2 c2 v2 G2 H2 p2 s2 r2 =>
      ⟨v1, v2, rfl, q _ c2 _ G2 H2 p2 ((s.trans w s1).trans w s2) (fun a o h => s2.gg a o (s1.gg a o h)) (EnvR.setk k2 ((s.trans w s1).zz w) (en.setk k1 (s.zz w) s1 r1 i) s2 r2 j)⟩⟩⟩
@[simp] def sPar3 (k1 k2 k3 : Kd) (i j l : Nat) (ta tb tc : TD) : TSD := fun ρ c N _ => ta ρ c fun x c1 => tb ρ c1 fun y c2 => tc ρ c2 fun z c3 => N (((ρ.set i (k1.sl x)).set j (k2.sl y)).set l (k3.sl z)) c3
theorem psd_par3 {k1 k2 k3 : Kd} {i j l : Nat} {x y z : Str} {px py pz pt : Pos} {kt kt2 pt2} (hc : X.calm = true) (hN : X.N.Nodup) (hi : X.N[i]? = some x) (hj : X.N[j]? = some y) (hl : X.N[l]? = some z) (hij : i ≠ j) (hil : i ≠ l) (hjl : j ≠ l)
    (hx : X.env.scope.names.lookup x = some .local) (hy : X.env.scope.names.lookup y = some .local) (hz : X.env.scope.names.lookup z = some .local) (ha : PE X e (upE k1.rr X.K ta)) (hb : PE X e2 (upE k2.rr X.K tb)) (hd : PE X e3 (upE k3.rr X.K tc))
    (hw : swappedStores [.Tuple [.Name x px, .Name y py, .Name z pz] kt pt] (.Tuple [e, e2, e3] kt2 pt2) X.env = pure (some [x, y, z]))
    (hs : swapsWithSole [.Tuple [.Name x px, .Name y py, .Name z pz] kt pt] (.Tuple [e, e2, e3] kt2 pt2) pos.line X.env = pure false := by rfl)
    (h1 : starEach [e, e2, e3] X.env = (false, eval e X.env) :: starEach [e2, e3] X.env := by rfl) (h2 : starEach [e2, e3] X.env = (false, eval e2 X.env) :: starEach [e3] X.env := by rfl) (h3 : starEach [e3] X.env = (false, eval e3 X.env) :: starEach [] X.env := by rfl) :
    PSD X τ G0 H0 c0 (.Assign [.Tuple [.Name x px, .Name y py, .Name z pz] kt pt] (.Tuple [e, e2, e3] kt2 pt2) pos) (sPar3 k1 k2 k3 i j l ta tb tc) :=
  ps_imp (ps_par3 hc hN hi hj hl hij hil hjl hx hy hz (pa_cons ha (pa_cons hb (pa_cons hd pa_nil h3) h2) h1) hw hs) fun D σ H ⟨G, ρ, c, N, R, w, s, en, p, q, r⟩ =>
    ⟨τ, H0, G, ρ, c, _, s.w0 w, en, p, fun x1 c1 v1 G1 H1 p1 s1 r1 => ⟨τ, H0, G1, ρ, c1, _, (s.trans w s1).w0 w, en.step s1, p1, fun x2 c2 v2 G2 H2 p2 s2 r2 => ⟨τ, H0, G2, ρ, c2, _, ((s.trans w s1).trans w s2).w0 w, (en.step s1).step s2, p2, fun x3 c3 v3 G3 H3 p3 s3 r3 =>
      ⟨v1, v2, v3, rfl, q _ c3 _ G3 H3 p3 (((s.trans w s1).trans w s2).trans w s3) (fun a o h => s3.gg a o (s2.gg a o (s1.gg a o h))) (EnvR.setk k3 (((s.trans w s1).trans w s2).zz w) (EnvR.setk k2 ((s.trans w s1).zz w) (en.setk k1 (s.zz w) s1 r1 i) s2 r2 j) s3 r3 l)⟩⟩⟩⟩
/-- target = value, any target -/
@[simp] def sAsg (te : TD) (g : TGD) : TSD := fun ρ c N _ => te ρ c fun d c1 => g d ρ fun ρ' => N ρ' c1
theorem psd_asg {tg : Expr} {g : TG} {gd : TGD} {js : List Nat} (he : PP X e te) (hg : PG X tg g) (hgd : GOk X.K g gd js) (hs : swapsWithSole [tg] e pos.line X.env = pure false := by rfl) (hw : swappedStores [tg] e X.env = pure none := by rfl)
    (h1 : (assignEach [tg] X.env).map (·.2) = [assign tg X.env] := by rfl) : PSD X τ G0 H0 c0 (.Assign [tg] e pos) (sAsg te gd) :=
  ps_imp (ps_asg he hg hs hw h1) fun D σ H ⟨G, ρ, c, N, R, w, s, en, p, q, r⟩ =>
    ⟨τ, H0, G, ρ, c, _, s.w0 w, en, p, fun d c1 v G1 H1 p1 s1 r1 => hgd τ H0 G1 H1 c1 σ ρ v d _ _ ((s.trans w s1).w0 w) (en.step s1) r1 p1 fun σ' ρ' n e' _ => q ρ' c1 σ' G1 H1 n (s.trans w s1) s1.gg e'⟩
@[simp] def sIf (t : TTD) (a b : TSD) : TSD := fun ρ c N R => t ρ c fun k c1 => if k = true then a ρ c1 N R else b ρ c1 N R
theorem psd_if {tt : TTD} {a b : List Stmt} (hc : PTD X cc tt) (ha : PSsD X τ G0 H0 c0 a t) (hb : PSsD X τ G0 H0 c0 b u) : PSD X τ G0 H0 c0 (.If cc a b pos) (sIf tt t u) :=
  ps_imp (ps_if hc ha hb) fun D σ H ⟨G, ρ, c, N, R, w, s, en, p, q, r⟩ => ⟨τ, H0, G, ρ, c, _, s.w0 w, en, p, fun k c1 G1 H1 p1 s1 => by
    cases k with
    | true => exact iteT ⟨G1, ρ, c1, N, R, w, s.trans w s1, en.step s1, p1, fun ρ' c' σ' G' H' n s' g' en' => q ρ' c' σ' G' H' n s' (fun a o h => g' a o (s1.gg a o h)) en', r⟩
    | false => exact iteF ⟨G1, ρ, c1, N, R, w, s.trans w s1, en.step s1, p1, fun ρ' c' σ' G' H' n s' g' en' => q ρ' c' σ' G' H' n s' (fun a o h => g' a o (s1.gg a o h)) en', r⟩⟩
@[simp] def sRet (te : TD) : TSD := fun ρ c _ R => te ρ c R
theorem psd_ret (he : PP X e te) : PSD X τ G0 H0 c0 (.Return (some e) pos) (sRet te) := ps_imp (ps_ret he) fun D σ H ⟨G, ρ, c, N, R, w, s, en, p, q, r⟩ =>
  ⟨τ, H0, G, ρ, c, _, s.w0 w, en, p, fun d c1 v G1 H1 p1 s1 r1 => r d c1 v G1 H1 p1 (s.trans w s1) r1⟩
@[simp] def sDrop (te : TD) : TSD := fun ρ c N _ => te ρ c fun _ c1 => N ρ c1
theorem psd_expr (he : PP X e te) (hs : swapsWith e none pos.line X.env = pure false := by rfl) : PSD X τ G0 H0 c0 (.Expr e pos) (sDrop te) := ps_imp (ps_expr he hs) fun D σ H ⟨G, ρ, c, N, R, w, s, en, p, q, r⟩ =>
  ⟨τ, H0, G, ρ, c, _, s.w0 w, en, p, fun d c1 v G1 H1 p1 s1 r1 => q ρ c1 σ G1 H1 p1 (s.trans w s1) s1.gg (en.step s1)⟩
theorem psd_never : PSD X τ G0 H0 c0 st (fun _ _ _ _ => False) := ps_imp ps_never fun D σ H ⟨G, ρ, c, N, R, w, s, en, p, q, r⟩ => p
theorem pssd_never : PSsD X τ G0 H0 c0 sts (fun _ _ _ _ => False) := pss_imp pss_never fun D σ H ⟨G, ρ, c, N, R, w, s, en, p, q, r⟩ => p
@[simp] def sAug (i : Nat) (te : TD) (f : Int → Int → Int) : TSD := fun ρ c N R => ∃ x, ρ[i]? = some (.va (.int x)) ∧ te ρ c fun d c1 => ∃ y, d = .int y ∧ N (ρ.set i (.va (.int (f x y)))) c1
theorem psd_aug {i : Nat} {x : Str} {op : Operator} {f : Int → Int → Int} {pos' : Pos} (hN : X.N.Nodup) (hi : X.N[i]? = some x) (hx : Loc X.env.scope x) (he : PP X e te) (ho : PIp X op (ipI f)) (hf : X.fn x = true ∨ X.env.scope.names.lookup x = some .local := by first | exact .inl rfl | exact .inr rfl | assumption) :
    PSD X τ G0 H0 c0 (.AugAssign (.Name x pos') op e pos) (sAug i te f) :=
  ps_imp (ps_aug hN hi hx he ho hf) fun D σ H ⟨G, ρ, c, N, R, w, s, en, ⟨x, hx, p⟩, q, r⟩ => by
    obtain ⟨v, hv, rv⟩ := en.va i _ hx
    cases rv
    exact ⟨_, hv, τ, H0, G, ρ, c, _, s.w0 w, en, p, fun d c1 v G1 H1 ⟨y, hd, p1⟩ s1 r1 => by
      subst hd
      cases (show Rep X.K τ G1 _ _ from r1)
      exact ⟨_, _, rfl, rfl, q _ c1 _ G1 H1 p1 (s.trans w s1) s1.gg ((en.step s1).setva (.int _))⟩⟩

/-! lists of one's own -/
@[simp] def sApp (i : Nat) (te : TD) : TSD := fun ρ c N _ => ∃ l, ρ[i]? = some (.ow l) ∧ te ρ c fun d c1 => l.length < 1000000 ∧ N (ρ.set i (.ow (l ++ [d]))) c1
theorem psd_append {i : Nat} {x : Expr} {apos cpos : Pos} (hx : PE X x (tVar i)) (he : PP X e te)
    (hbase : attributeBase x "append" X.env (eval x X.env) = eval x X.env := by rfl)
    (hfew : ((backTo cpos (starEach [e] X.env)).all (fun x => !x.1) && (backToKw cpos (keywordEach [] X.env)).all (fun x => x.1.isSome)
      && decide ([e].length + ([] : List Keyword).length + (if ([] : List Keyword).isEmpty then 0 else 1) < 30)) = true := by rfl)
    (hline : (apos.endLine == cpos.line) = true := by rfl) (hs : starEach [e] X.env = (false, eval e X.env) :: starEach [] X.env := by rfl) (hplain : (backTo cpos (starEach [] X.env)).any (·.1) = false := by rfl)
    (hsw : swapsWith (.Call (.Attribute x "append" apos) [e] [] cpos) none pos.line X.env = pure false := by rfl) : PSD X τ G0 H0 c0 (.Expr (.Call (.Attribute x "append" apos) [e] [] cpos) pos) (sApp i te) :=
  ps_imp (ps_expr (pe_bm PySem.F.plainAttrs_list PySem.F.slot_list_append PySem.F.type_list_append mt_append hx (pa_cons he pa_nil hs) hbase hfew hline hs hplain) hsw) fun D σ H ⟨G, ρ, c, N, R, w, s, en, ⟨l, hl, p⟩, q, r⟩ => by
    obtain ⟨a, vs, hs, ha, rr, g, z, n⟩ := en.ow i l hl
    refine ⟨_, hs, .inl ⟨rfl, _, .of ha⟩, τ, H0, G, ρ, c, _, s.w0 w, en, p, fun d c1 v G1 H1 ⟨hle, p1⟩ s1 r1 => ?_⟩
    have ha1 := s1.hh _ _ ha n
    have g1 := s1.gn a g (by first | exact .l ha | exact .t ha)
    refine ⟨a, vs, v, rfl, rfl, ha1, by rw [rr.len]; exact big_lt (by omega), ?_⟩
    exact q _ c1 _ G1 _ p1 ((s.trans w s1).write g1 z n) s1.gg ((en.step s1).write hl rfl hs rfl (.inl ⟨_, _, rfl, rfl, (rr.mono s1.gg).app (.cons r1 .nil)⟩))
@[simp] def sExt (i : Nat) (te : TD) : TSD := fun ρ c N _ => ∃ l, ρ[i]? = some (.ow l) ∧ te ρ c fun d c1 => ∃ l2, d = .lst l2 ∧ l.length + l2.length ≤ 1000000 ∧ N (ρ.set i (.ow (l ++ l2))) c1
theorem psd_extend {i : Nat} {x : Expr} {apos cpos : Pos} (hx : PE X x (tVar i)) (he : PP X e te)
    (hbase : attributeBase x "extend" X.env (eval x X.env) = eval x X.env := by rfl)
    (hfew : ((backTo cpos (starEach [e] X.env)).all (fun x => !x.1) && (backToKw cpos (keywordEach [] X.env)).all (fun x => x.1.isSome)
      && decide ([e].length + ([] : List Keyword).length + (if ([] : List Keyword).isEmpty then 0 else 1) < 30)) = true := by rfl)
    (hline : (apos.endLine == cpos.line) = true := by rfl) (hs : starEach [e] X.env = (false, eval e X.env) :: starEach [] X.env := by rfl) (hplain : (backTo cpos (starEach [] X.env)).any (·.1) = false := by rfl)
    (hsw : swapsWith (.Call (.Attribute x "extend" apos) [e] [] cpos) none pos.line X.env = pure false := by rfl) : PSD X τ G0 H0 c0 (.Expr (.Call (.Attribute x "extend" apos) [e] [] cpos) pos) (sExt i te) :=
  ps_imp (ps_expr (pe_bm PySem.F.plainAttrs_list PySem.F.slot_list_extend PySem.F.type_list_extend mt_extend hx (pa_cons he pa_nil hs) hbase hfew hline hs hplain) hsw) fun D σ H ⟨G, ρ, c, N, R, w, s, en, ⟨l, hl, p⟩, q, r⟩ => by
    obtain ⟨a, vs, hs, ha, rr, g, z, n⟩ := en.ow i l hl
    refine ⟨_, hs, .inl ⟨rfl, _, .of ha⟩, τ, H0, G, ρ, c, _, s.w0 w, en, p, fun d c1 v G1 H1 ⟨l2, hd, hle, p1⟩ s1 r1 => ?_⟩
    subst hd
    have ha1 := s1.hh _ _ ha n
    have g1 := s1.gn a g (by first | exact .l ha | exact .t ha)
    cases (show Rep X.K τ G1 _ _ from r1) with
    | lst h r2 =>
      refine ⟨a, _, vs, _, rfl, rfl, ha1, s1.gh _ _ h, by rw [rr.len, r2.len]; exact big_le hle, ?_⟩
      exact q _ c1 _ G1 _ p1 ((s.trans w s1).write g1 z n) s1.gg ((en.step s1).write hl rfl hs rfl (.inl ⟨_, _, rfl, rfl, (rr.mono s1.gg).app r2⟩))
@[simp] def sPut (i : Nat) (ti te : TD) : TSD := fun ρ c N _ => ∃ l, ρ[i]? = some (.ow l) ∧ te ρ c fun d c1 => ti ρ c1 fun k c2 => ∃ n j, k = .int n ∧ ixN l.length n = some j ∧ N (ρ.set i (.ow (l.set j d))) c2
theorem psd_put {i : Nat} {x ix : Expr} {tpos : Pos} {ti : TD} (hx : PE X x (tVar i)) (hi : PP X ix ti) (he : PP X e te)
    (ha : ∀ v, assign (.Subscript x ix tpos) X.env v = (do
      let ov ← holding [v] (eval x X.env)
      let iv ← holding [v, ov] (eval ix X.env)
      standAt tpos
      holding [v, ov, iv] (setItem ov iv v)
      release [v, ov, iv] []) := by intro _; rfl)
    (hs : swapsWithSole [.Subscript x ix tpos] e pos.line X.env = pure false := by rfl) (hw : swappedStores [.Subscript x ix tpos] e X.env = pure none := by rfl)
    (h1 : (assignEach [.Subscript x ix tpos] X.env).map (·.2) = [assign (.Subscript x ix tpos) X.env] := by rfl) : PSD X τ G0 H0 c0 (.Assign [.Subscript x ix tpos] e pos) (sPut i ti te) :=
  ps_imp (ps_asg he (pg_sub hx hi set_list ha) hs hw h1) fun D σ H ⟨G, ρ, c, N, R, w, s, en, ⟨l, hl, p⟩, q, r⟩ => ⟨τ, H0, G, ρ, c, _, s.w0 w, en, p, fun d c1 v G1 H1 p1 s1 r1 => by
    have en1 := en.step s1
    obtain ⟨a, vs, hs, ha, rr, g, z, n⟩ := en1.ow i l hl
    refine ⟨_, hs, τ, H0, G1, ρ, c1, _, (s.trans w s1).w0 w, en1, p1, fun k c2 u G2 H2 ⟨nn, j, hk, hj, p2⟩ s2 r2 => ?_⟩
    subst hk
    cases (show Rep X.K τ G2 _ _ from r2)
    have ha2 := s2.hh _ _ ha n
    have g2 := s2.gn a g (by first | exact .l ha | exact .t ha)
    refine ⟨a, vs, nn, j, rfl, rfl, ha2, by rw [rr.len]; exact hj, ?_⟩
    exact q _ c2 _ G2 _ p2 (((s.trans w s1).trans w s2).write g2 z n) (fun b o h => s2.gg b o (s1.gg b o h)) ((en1.step s2).write hl rfl hs rfl (.inl ⟨_, _, rfl, rfl, (rr.mono s2.gg).set ((show Rep X.K τ G1 v d from r1).mono s2.gg) j⟩))⟩
/-- y = x.pop(i) -/
@[simp] def sPop (j i : Nat) (ti : TD) : TSD := fun ρ c N _ => ∃ l, ρ[i]? = some (.ow l) ∧ ti ρ c fun d c1 => ∃ n y, d = .int ((n : Nat) : Int) ∧ n < 1000000 ∧ l[n]? = some y ∧ N ((ρ.set i (.ow (l.eraseIdx n))).set j (.va y)) c1
theorem psd_pop {j i : Nat} {x : Expr} {y : Str} {apos cpos pos' : Pos} {ti : TD} (hN : X.N.Nodup) (hj : X.N[j]? = some y) (hy : Loc X.env.scope y) (hx : PE X x (tVar i)) (he : PP X e ti)
    (hs1 : swapsWith (.Call (.Attribute x "pop" apos) [e] [] cpos) (some (.Name y pos')) pos.line X.env = pure false := by rfl) (hf : X.fn y = true ∨ X.env.scope.names.lookup y = some .local := by first | exact .inl rfl | exact .inr rfl | assumption)
    (hbase : attributeBase x "pop" X.env (eval x X.env) = eval x X.env := by rfl)
    (hfew : ((backTo cpos (starEach [e] X.env)).all (fun x => !x.1) && (backToKw cpos (keywordEach [] X.env)).all (fun x => x.1.isSome)
      && decide ([e].length + ([] : List Keyword).length + (if ([] : List Keyword).isEmpty then 0 else 1) < 30)) = true := by rfl)
    (hline : (apos.endLine == cpos.line) = true := by rfl) (hs : starEach [e] X.env = (false, eval e X.env) :: starEach [] X.env := by rfl) (hplain : (backTo cpos (starEach [] X.env)).any (·.1) = false := by rfl) :
    PSD X τ G0 H0 c0 (.Assign [.Name y pos'] (.Call (.Attribute x "pop" apos) [e] [] cpos) pos) (sPop j i ti) :=
  ps_imp (ps_set hN hj hy (pe_bm PySem.F.plainAttrs_list PySem.F.slot_list_pop PySem.F.type_list_pop mt_popAt hx (pa_cons he pa_nil hs) hbase hfew hline hs hplain) hs1 hf) fun D σ H ⟨G, ρ, c, N, R, w, s, en, ⟨l, hl, p⟩, q, r⟩ => by
    obtain ⟨a, vs, hs, ha, rr, g, z, n⟩ := en.ow i l hl
    refine ⟨_, hs, .inl ⟨rfl, _, .of ha⟩, τ, H0, G, ρ, c, _, s.w0 w, en, p, fun d c1 v G1 H1 ⟨nn, yy, hd, hnn, hy1, p1⟩ s1 r1 => ?_⟩
    subst hd
    cases (show Rep X.K τ G1 _ _ from r1)
    have ha1 := s1.hh _ _ ha n
    have g1 := s1.gn a g (by first | exact .l ha | exact .t ha)
    have rr1 := rr.mono s1.gg
    obtain ⟨u, hu, ru⟩ := rr1.get hy1
    have hlt : nn < vs.length := (List.getElem?_eq_some_iff.mp hu).1
    refine ⟨a, vs, nn, nn, u, rfl, rfl, ha1, by omega, by omega, ?_, hu, ?_⟩
    · have : ixN vs.length ((nn : Nat) : Int) = some nn := by
        unfold ixN
        rw [if_pos (by omega), if_pos (by omega)]
        simp
      exact (ixN_seq this).1
    · exact q _ c1 _ G1 _ p1 ((s.trans w s1).write g1 z n) s1.gg (((en.step s1).write hl rfl hs rfl (.inl ⟨_, _, rfl, rfl, rr1.erase nn⟩)).setva ru)
/-- d[a, b] = e -/
def putD (l : List ((Int × Int) × Bool)) (k : Int × Int) (b : Bool) : List ((Int × Int) × Bool) := if l.any (fun p => decide (p.1 = k)) then l.map (fun p => if p.1 = k then (k, b) else p) else l ++ [(k, b)]
@[simp] def sDput (i : Nat) (t1 t2 te : TD) : TSD := fun ρ c N _ => ∃ l, ρ[i]? = some (.od l) ∧ te ρ c fun d c1 => t1 ρ c1 fun x c2 => t2 ρ c2 fun y c3 => ∃ b m n, d = .bl b ∧ x = .int m ∧ y = .int n ∧ dval l (m, n) = none ∧ l.length < 1000000 ∧ N (ρ.set i (.od (l ++ [((m, n), b)]))) c3
theorem dval_none {l : List ((Int × Int) × Bool)} {m n : Int} (h : dval l (m, n) = none) : valV (dKV l) [.inl m, .inl n] = none := by rw [valV_dKV, h]; rfl
theorem psd_dput {i : Nat} {x i1 i2 : Expr} {tpos p5 : Pos} {kk : Nat} {t1 t2 : TD} (hu : X.A.units + 1 < cLine) (hx : PE X x (tVar i)) (h1 : PP X i1 t1) (h2 : PP X i2 t2) (he : PP X e te) (hs : swapsWith e (some (.Subscript x (.Tuple [i1, i2] kk p5) tpos)) pos.line X.env = pure false := by rfl)
    (hs1 : starEach [i1, i2] X.env = (false, eval i1 X.env) :: starEach [i2] X.env := by rfl) (hs2 : starEach [i2] X.env = (false, eval i2 X.env) :: starEach [] X.env := by rfl) :
    PSD X τ G0 H0 c0 (.Assign [.Subscript x (.Tuple [i1, i2] kk p5) tpos] e pos) (sDput i t1 t2 te) :=
  ps_imp (ps_dput hu hx (pe_tup (pa_cons h1 (pa_cons h2 pa_nil hs2) hs1)) he hs) fun D σ H ⟨G, ρ, c, N, R, w, s, en, ⟨l, hl, p⟩, q, r⟩ => ⟨τ, H0, G, ρ, c, _, s.w0 w, en, p, fun d c1 v G1 H1 p1 s1 r1 => by
    have en1 := en.step s1
    obtain ⟨a, hs, ha, g, z, n⟩ := en1.od i l hl
    refine ⟨_, hs, τ, H0, G1, ρ, c1, _, (s.trans w s1).w0 w, en1, p1, fun x1 c2 u1 G2 H2 p2 s2 r2 => ⟨τ, H0, G2, ρ, c2, _, ((s.trans w s1).trans w s2).w0 w, en1.step s2, p2, fun x2 c3 u2 G3 H3 ⟨b, m, k, hd, hm, hk, hv, hlen, p3⟩ s3 r3 => ?_⟩⟩
    subst hd hm hk
    cases (show Rep X.K τ G1 _ _ from r1)
    cases (show Rep X.K τ G2 _ _ from r2)
    cases (show Rep X.K τ G3 _ _ from r3)
    refine ⟨by show 2 ≤ sizeLine; decide, fun t ht => ?_⟩
    have s13 := s2.trans ((s.trans w s1).w0 w) s3
    have ha3 := s13.hh _ _ ha n
    have g3 := s13.gn a g (by first | exact .l ha | exact .t ha)
    have s03 := (s.trans w s1).trans w s13
    have hta : a ≠ t := fun zz => by rw [← zz, ha3] at ht; cases ht
    have s4 : Step τ G3 H3 c3 G3 (upd H3 t (.tup [.int m, .int k])) c3 := .laidF (s03.w0 w) ht
    have ha4 : (upd H3 t (.tup [.int m, .int k])) a = some (.dT (dKV l)) := by rw [upd_ne hta]; exact ha3
    refine ⟨a, _, rfl, DPut.t (k := [.inl m, .inl k]) ha4 upd_same (by unfold dKV; rw [List.length_map]; exact big_lt (by omega)), ?_⟩
    have e1 : putK (dKV l) [.inl m, .inl k] (.bl b) = dKV (l ++ [((m, k), b)]) := by
      rw [putK_new _ (dval_none hv)]
      unfold dKV
      rw [List.map_append]
      rfl
    rw [e1]
    exact q _ c3 _ G3 _ p3 ((s03.trans w s4).write g3 z n) (fun b o h => s13.gg b o (s1.gg b o h)) (((en1.step s13).step s4).write hl rfl hs rfl (.inr ⟨_, rfl, rfl⟩))⟩
theorem pdd_dict : PE X (.Dict [] [] pos) (upE RD X.K (fun _ c Q => Q (.dic []) c)) := pe_imp pe_dnewT fun σ H Q ⟨τ, H0, G, ρ, c, P, w, en, p, q⟩ => fun a ha => q _ c _ G _ p (.laidF w ha) ⟨a, [], rfl, rfl, upd_same, g_none w ha, ha, t_ne w.tn ha⟩

/-! loops -/
def forT (g : TGD) (tb : TSD) : List D → Rho → Nat → (Rho → Nat → Prop) → (D → Nat → Prop) → Prop
  | [], ρ, c, N, _ => N ρ c
  | x :: xs, ρ, c, N, R => g x ρ fun ρ1 => tb ρ1 c (fun ρ2 c2 => forT g tb xs ρ2 c2 N R) R
@[simp] def sFor (ti : TAD) (g : TGD) (tb : TSD) : TSD := fun ρ c N R => ti ρ c fun items c1 => forT g tb items ρ c1 N R
theorem psd_for {tg iter : Expr} {body : List Stmt} {ti : TAD} {g : TG} {gd : TGD} {js : List Nat} {tb : TSD} (hp : PassesOwn (model X.prog X.w) X.A X.env X.xe) (hc : X.calm = true) (hi : PID false X tg iter ti) (hg : PG X tg g) (hgd : GOk X.K g gd js) (hb : PSsD X τ G0 H0 c0 body tb)
    (hs : ∀ x, foldedSetIterable iter X.env x = pure x := by intro _; rfl) : PSD X τ G0 H0 c0 (.For tg iter body [] pos) (sFor ti gd tb) :=
  ps_imp (ps_for hp hc hi hg hb hs) fun D σ H ⟨G, ρ, c, N, R, w, s, en, p, q, r⟩ => ⟨τ, H0, G, ρ, c, _, s.w0 w, en, p, fun items c1 J G1 H1 p1 s1 it => by
    have s01 := s.trans w s1
    refine ⟨fun i m σx Hx => ∃ Gx ρx cx, m = items.length - i ∧ i ≤ items.length ∧ Step τ G0 H0 c0 Gx Hx cx ∧ (∀ a o, G1 a = some o → Gx a = some o) ∧ EnvR X.K τ H0 Gx Hx σx ρx ∧ forT gd tb (items.drop i) ρx cx N R,
      ⟨items.length, G1, ρ, c1, by simp, Nat.zero_le _, s01, fun _ _ h => h, en.step s1, by simpa using p1⟩, ?_⟩
    rintro i m σx Hx ⟨Gx, ρx, cx, rfl, hi, sx, gx, ex, px⟩
    obtain ⟨go, stop, yl⟩ := it Gx Hx cx (sx.w0 w) gx (fun z => nomatch z)
    by_cases hlt : i < items.length
    · refine .inr ⟨go i hlt, _, fun σ' H' h => h, fun x H' hy => ?_⟩
      rw [List.drop_eq_getElem_cons hlt] at px
      obtain ⟨G2, s2, r2⟩ := yl i x H' items[i] (List.getElem?_eq_getElem hlt) hy
      have s02 := sx.trans w s2
      refine hgd τ H0 G2 H' cx σx ρx x items[i] _ _ (s02.w0 w) (ex.step s2) r2 px fun σ3 ρ3 p3 e3 _ => ?_
      refine ⟨G2, ρ3, cx, _, R, w, s02, e3, p3, fun ρ4 c4 σ4 G4 H4 p4 s4 g4 e4 => ?_, r⟩
      exact ⟨items.length - (i + 1), by omega, G4, ρ4, c4, rfl, hlt, s4, fun a o h => g4 a o (s2.gg a o (gx a o h)), e4, p4⟩
    · have e : i = items.length := by omega
      subst e
      rw [List.drop_length] at px
      exact .inl ⟨stop _ (Nat.le_refl _), q ρx cx σx Gx Hx px sx (fun a o h => gx a o (s1.gg a o h)) ex⟩⟩
def whT (t : TTD) (tb : TSD) : Nat → Rho → Nat → (Rho → Nat → Prop) → (D → Nat → Prop) → Prop
  | 0, _, _, _, _ => False
  | n + 1, ρ, c, N, R => t ρ c fun k c1 => if k = true then tb ρ c1 (fun ρ2 c2 => whT t tb n ρ2 c2 N R) R else N ρ c1
@[simp] def sWh (t : TTD) (tb : TSD) : TSD := fun ρ c N R => ∃ n, whT t tb n ρ c N R
theorem psd_while {body : List Stmt} {tt : TTD} {tb : TSD} (hp : PassesOwn (model X.prog X.w) X.A X.env X.xe) (hc : PTD X cc tt) (hb : PSsD X τ G0 H0 c0 body tb) : PSD X τ G0 H0 c0 (.While cc body [] pos) (sWh tt tb) :=
  ps_imp (ps_while hp hc hb) fun D σ H ⟨G, ρ, c, N, R, w, s, en, ⟨n, p⟩, q, r⟩ => by
    refine ⟨fun m σx Hx => ∃ Gx ρx cx, Step τ G0 H0 c0 Gx Hx cx ∧ (∀ a o, G a = some o → Gx a = some o) ∧ EnvR X.K τ H0 Gx Hx σx ρx ∧ whT tt tb m ρx cx N R, ⟨n, G, ρ, c, s, fun _ _ h => h, en, p⟩, ?_⟩
    rintro m σx Hx ⟨Gx, ρx, cx, sx, gx, ex, px⟩
    cases m with
    | zero => exact px.elim
    | succ m =>
      refine ⟨τ, H0, Gx, ρx, cx, _, sx.w0 w, ex, px, fun k c1 G1 H1 p1 s1 => ?_⟩
      cases k with
      | true =>
        refine iteT ⟨_, fun σ' H' h => h, G1, ρx, c1, _, R, w, sx.trans w s1, ex.step s1, p1, fun ρ2 c2 σ2 G2 H2 p2 s2 g2 e2 => ?_, r⟩
        exact ⟨m, Nat.lt_succ_self m, G2, ρ2, c2, s2, fun a o h => g2 a o (s1.gg a o (gx a o h)), e2, p2⟩
      | false => exact iteF (q ρx c1 σx G1 H1 p1 (sx.trans w s1) (fun a o h => s1.gg a o (gx a o h)) (ex.step s1))
end

/-! defs -/
abbrev SpD := List D → Nat → (D → Nat → Prop) → Prop
def upF (K : PySem.W.Frag) (n : Nat) (sp : SpD) : Sp := fun vs H Q _ => ∃ (τ : Option Addr) (G : Hp) (ds : List D) (c : Nat) (P : D → Nat → Prop), W0 τ G H c ∧ Reps K τ G vs ds ∧ ds.length = n ∧ sp ds c P ∧
  ∀ d c' v G' H', P d c' → Step τ G H c G' H' c' → Rep K τ G' v d → Q v H'
@[simp] def dFn (sp : SpD) (t : TAD) : TD := fun ρ c Q => t ρ c fun ds c1 => sp ds c1 Q
section
variable {X : Cx} {CX : CXT} {k : Nat} {f : Addr} {fd : FuncData} {ps : List Str} {n : Nat} {sp : SpD} {x : Str} {p pos : Pos} {e : Expr} {es : List Expr} {t : TAD}
theorem RL.len {R : RR} {K τ Hs G H} : ∀ {vs ds}, RL R K τ Hs G H vs ds → vs.length = ds.length
  | _, _, .nil => rfl
  | _, _, .cons _ t => by rw [List.length_cons, List.length_cons, t.len]
@[simp] def dFnN (n : Nat) (sp : SpD) (t : TAD) : TD := fun ρ c Q => t ρ c fun ds c1 => ds.length = n ∧ sp ds c1 Q
theorem ppd_call (F : FnOk X.prog X.w X.K X.mg X.base CX0 k f fd ps (upF X.K n sp)) (hr : Room k X.A) (hg : Gl X x) (hm : X.mg x = some (.ref f)) (hk : PySem.W.keepIn X.K (.ref f) = true) (hb : Binds X.K fd ps [])
    (ha : PAD X (e :: es) t) (hdb : (x == ("__debug__" : Str)) = false := by decide) (he : starEach (e :: es) X.env = (false, eval e X.env) :: starEach es X.env := by rfl) (hpl : (backTo pos (starEach es X.env)).any (·.1) = false := by rfl) :
    PP X (.Call (.Name x p) (e :: es) [] pos) (dFnN n sp t) :=
  pe_imp (pe_call F hr hg hm hk hb .nil pass0 ha hdb he hpl) fun σ H Q ⟨τ, H0, G, ρ, c, P, w, en, p, q⟩ => ⟨τ, H0, G, ρ, c, _, w, en, p, fun ds c1 vs G1 H1 ⟨p0, p1⟩ s1 r1 => by
    show upF X.K n sp (vs ++ []) H1 Q E0
    rw [List.append_nil]
    exact ⟨τ, G1, ds, c1, P, s1.w0 w, r1.reps, p0, p1, fun d c' v G' H' p' s' r' => q d c' v G' H' p' (s1.trans w s') r'⟩⟩
end
/-- slots at a def's start -/
@[simp] def startR (N : List Str) (ds : List D) : Rho := ds.map Sl.va ++ List.replicate (N.length - ds.length) Sl.no
theorem start_env {K : PySem.W.Frag} {τ : Option Addr} {H0 G H : Hp} {N : List Str} {vs : List V} {ds : List D} (r : Reps K τ G vs ds) : EnvR K τ H0 G H (L2.start N vs) (startR N ds) := by
  have key : ∀ (i : Nat) (s : Sl), (startR N ds)[i]? = some s → s = .no ∨ ∃ d, ds[i]? = some d ∧ s = .va d := fun i s h => by
    unfold startR at h
    by_cases hi : i < ds.length
    · rw [List.getElem?_append_left (by simpa using hi), List.getElem?_map] at h
      obtain ⟨d, hd, e⟩ := Option.map_eq_some_iff.mp h
      exact .inr ⟨d, hd, e.symm⟩
    · rw [List.getElem?_append_right (by simpa using Nat.le_of_not_lt hi)] at h
      exact .inl (List.eq_of_mem_replicate (List.mem_of_getElem? h))
  refine ⟨?_, fun i d h => ?_, fun i l h => ?_, fun i l h => ?_, fun i j s t p h1 h2 o1 o2 _ _ => ?_⟩
  · unfold startR L2.start
    simp [r.len]
  · rcases key i _ h with h | ⟨d', hd, e⟩
    · cases h
    · cases e
      obtain ⟨v, hv, rv⟩ := r.get hd
      refine ⟨v, ?_, rv⟩
      unfold L2.start
      have hi : i < vs.length := (List.getElem?_eq_some_iff.mp hv).1
      rw [List.getElem?_append_left (by simpa using hi), List.getElem?_map, hv]
      rfl
  · rcases key i _ h with h | ⟨d', hd, e⟩
    · cases h
    · cases e
  · rcases key i _ h with h | ⟨d', hd, e⟩
    · cases h
    · cases e
  · rcases key i _ h1 with h | ⟨d', hd, e⟩
    · subst h; cases o1
    · subst e; cases o1
/-- THE RULE for a def, by data -/
theorem okD {P : Program} {w : World} {K : PySem.W.Frag} {mg : Str → Option Value} {base : Heap} {x qual : Str} {st : Stmt} {f : Addr} {fd : FuncData} {N ps : List Str} {k : Nat} {sp : SpD} (F : Fun K x qual st f fd) (S : FnScope N ps (defScope st)) (t : TSD)
    (hs : ∀ ds c Q, ds.length = ps.length → sp ds c Q → t (startR N ds) c (fun _ c' => Q .non c') Q)
    (hb : ∀ (cdv : Value) (A : Around) (outer : List Env) (s : Shared) (H : Hp) (E : XK) (τ : Option Addr) (G : Hp) (c : Nat), Room k (A.deeper (envOfC qual (defScope st) s.heap.objs.size f cdv)) →
      PSsD (cxOf CX0 P w K mg base N qual (defScope st) f cdv A outer s H E).nox τ G H c (defBody st) t) : FnOk P w K mg base CX0 (k + 1) f fd ps (upF K ps.length sp) :=
  F.ok S (fun vs H Q E ⟨τ, G, ds, c, P, w0, r, hl, _⟩ => r.len.trans hl) fun cdv A outer s H vs Q E hr ⟨τ, G, ds, c, P', w0, r, hl, hsp, q⟩ =>
    ⟨_, hb cdv A outer s H E τ G c hr, G, startR N ds, c, _, _, w0, w0.refl, start_env r, hs ds c P' hl hsp, fun ρ' c' σ' G' H' p' s' _ _ => q .non c' .non G' H' p' s' .non, fun d c' v G' H' p' s' r' => q d c' v G' H' p' s' r'⟩
end Pd
end
section
set_option Elab.async false
set_option linter.all false
set_option maxRecDepth 100000
/-! PD7: the program's defs as facts. -/
namespace Pd
open PySem PySem.Spec PyProof.Rows L2 RZ
def top (i : Nat) : Stmt := PySem.Challenge.pw_recordfits_k61_whole_changes_by_all_lots.main.body.getD i (.Pass ⟨0, 0, 0, 0⟩)
/-- what the module's names hold besides the defs -/
structure Fr0 (K : PySem.W.Frag) (mg : Str → Option Value) : Prop where
  len : mg "len" = none
  tuple : mg "tuple" = none
  list : mg "list" = none
  range : mg "range" = none
  zip : mg "zip" = none
  enumerate : mg "enumerate" = none
  sorted : mg "sorted" = none
  isinstance : mg "isinstance" = none
  abs : mg "abs" = none
  int : mg "int" = none
  min : mg "min" = none
  max : mg "max" = none
  all : mg "all" = none
  any : mg "any" = none
  bool : mg "bool" = none
  str : mg "str" = none
  gcd : mg "gcd" = some (.builtin "math.gcd")
  none_ : ∃ a, mg "NONE" = some (.ref a) ∧ ∀ H, SqT K H a [.int 0, .int 1]
  full_ : ∃ a, mg "FULL" = some (.ref a) ∧ ∀ H, SqT K H a [.int 1, .int 1]
/-- a def of the text stands behind its name -/
def Dfn (K : PySem.W.Frag) (mg : Str → Option Value) (x : Str) (i : Nat) (ps : List Str) : Prop := ∃ f fd, Fun K x x (top i) f fd ∧ mg x = some (.ref f) ∧ Binds K fd ps []
/-- a def keeps its promise -/
def Kn (P : Program) (w : World) (K : PySem.W.Frag) (mg : Str → Option Value) (base : Heap) (x : Str) (k : Nat) (ps : List Str) (sp : SpD) : Prop :=
  ∃ f fd, FnOk P w K mg base CX0 k f fd ps (upF K ps.length sp) ∧ mg x = some (.ref f) ∧ PySem.W.keepIn K (.ref f) = true ∧ Binds K fd ps []
section
variable {P : Program} {w : World} {K : PySem.W.Frag} {mg : Str → Option Value} {base : Heap}
theorem ppd_callK {X : Cx} {k j n : Nat} {ps : List Str} {sp : SpD} {x : Str} {p pos : Pos} {e : Expr} {es : List Expr} {t : TAD} (F : Kn X.prog X.w X.K X.mg X.base x j ps sp) (hn : ps.length = n) (hr : Room k X.A) (h : j ≤ k) (hg : Gl X x)
    (ha : PAD X (e :: es) t) (hdb : (x == ("__debug__" : Str)) = false := by decide) (he : starEach (e :: es) X.env = (false, eval e X.env) :: starEach es X.env := by rfl) (hpl : (backTo pos (starEach es X.env)).any (·.1) = false := by rfl) :
    PP X (.Call (.Name x p) (e :: es) [] pos) (dFnN n sp t) := by
  subst hn
  obtain ⟨f, fd, F, hm, hk, hb⟩ := F
  exact ppd_call F (hr.mono h) hg hm hk hb ha hdb he hpl
theorem fun_of_d {x : Str} {i : Nat} {f : Addr} {fd : FuncData} (F : FunD K x x (defArgs (top i)) (defBody (top i)) (defScope (top i)) [] [] f fd) : Fun K x x (top i) f fd := by
  obtain ⟨oc, od, dV, kV, doc, pm, an, cdv, ct, osl, e, lk, hc, hD, hK⟩ := F.ex
  refine ⟨?_, F.kp⟩
  rcases hD with ⟨_, e2⟩ | ⟨n, _⟩
  · subst e2
    exact ⟨oc, od, kV, doc, pm, an, cdv, ct, osl, e, lk, hc⟩
  · exact absurd rfl n
theorem ppd_NONE {X : Cx} (F : Fr0 X.K X.mg) {p : Pos} (hg : Gl X "NONE") : PP X (.Name "NONE" p) (dC (.tup [.int 0, .int 1])) := by
  obtain ⟨a, h1, h2⟩ := F.none_
  exact ppd_globT hg h1 h2 fun _ _ => .cons (.int 0) (.cons (.int 1) .nil)
theorem ppd_FULL {X : Cx} (F : Fr0 X.K X.mg) {p : Pos} (hg : Gl X "FULL") : PP X (.Name "FULL" p) (dC (.tup [.int 1, .int 1])) := by
  obtain ⟨a, h1, h2⟩ := F.full_
  exact ppd_globT hg h1 h2 fun _ _ => .cons (.int 1) (.cons (.int 1) .nil)
theorem knD {x : Str} {i : Nat} {N ps : List Str} {k : Nat} {sp : SpD} (D : Dfn K mg x i ps) (S : FnScope N ps (defScope (top i))) (t : TSD)
    (hs : ∀ ds c Q, ds.length = ps.length → sp ds c Q → t (startR N ds) c (fun _ c' => Q .non c') Q)
    (hb : ∀ (f : Addr) (cdv : Value) (A : Around) (outer : List Env) (s : Shared) (H : Hp) (E : XK) (τ : Option Addr) (G : Hp) (c : Nat), Room k (A.deeper (envOfC x (defScope (top i)) s.heap.objs.size f cdv)) →
      PSsD (cxOf CX0 P w K mg base N x (defScope (top i)) f cdv A outer s H E).nox τ G H c (defBody (top i)) t) : Kn P w K mg base x (k + 1) ps sp := by
  obtain ⟨f, fd, F, hm, hb'⟩ := D
  exact ⟨f, fd, okD F S t hs (hb f), hm, F.kp, hb'⟩
end
end Pd
end
section
set_option Elab.async false
set_option linter.all false
set_option maxRecDepth 100000
/-! PD8: sorted(xs, key=f) of data. -/
namespace Pd
open PySem PySem.Spec PyProof.Rows L2 PySem.W
section
variable {X : Cx} {k n : Nat} {f : Addr} {fd : FuncData} {ps : List Str} {sp : Sp}
theorem run_fnA {pins : List (Addr × Obj)} {σ : L2.St} {H : Hp} {s : Shared} {Q : VK} {us : List Value} {vs : List V} {E' : Value → Shared → Prop} (F : FnOk X.prog X.w X.K X.mg X.base CX0 k f fd ps sp) (hr : Room k X.A.in1.in1) (hb : Binds X.K fd ps [])
    (I : Inv X pins σ H s) (r : Vals vs us) (h : sp vs H Q E0) : wpAny (model X.prog X.w) X.A.in1.in1 (call (.ref f) us) (EP X pins σ Q) E' s := by
  have hl : (us ++ []).length = ps.length := by rw [List.append_nil, ← r.length]; exact F.len _ _ _ _ h
  have hb' := hb s us I.kIn hl
  rw [List.append_nil] at hb'
  refine wpAny_call (codeAny_mono (F.run X.A.in1.in1 X.stack s H ⟨us, []⟩ us vs Q E0 hr I.env0.in1.in1 hb' r h) fun r s' hq => ?_)
  cases r with
  | error e => exact False.elim hq
  | ok fl =>
    cases fl with
    | ret u => exact I.after hq
    | next => exact False.elim hq
    | brk => exact False.elim hq
    | cont => exact False.elim hq
/-- two records of ours have turned, one is tracked from now on -/
theorem Inv.take2 {pins : List (Addr × Obj)} {σ : L2.St} {H : Hp} {s : Shared} {h' : Heap} {t' : Nat} {it jt : Addr} {o : HO} (I : Inv X pins σ H s) (k : ∀ b ob, b ≠ it → b ≠ jt → s.heap.get? b = some ob → h'.get? b = some ob) (f : FpOk X pins H it) (g : FpOk X pins H jt)
    (new : ObjOk X.prog X.w (upd H it o) h' it o) : Inv X pins σ (upd H it o) { s with heap := h', toks := t' } := by
  obtain ⟨hn, hL, _, h1, h2, h3⟩ := f
  obtain ⟨gn, gL, _, g1, g2, g3⟩ := g
  have nit : ∀ b u, H b = some u → b ≠ it := fun b u e z => by rw [z, hn] at e; cases e
  have njt : ∀ b u, H b = some u → b ≠ jt := fun b u e z => by rw [z, gn] at e; cases e
  have up : ∀ b u, H b = some u → upd H it o b = some u := fun b u e => by rw [upd_ne (nit b u e)]; exact e
  refine I.step (g' := s.gens) (d' := s.drawn) (ch := [it, jt]) (fun b hb => ?_) (fun b ob _ _ hc e _ => k b ob (fun z => hc (by simp [z])) (fun z => hc (by simp [z])) e) (fun b ob _ _ hc e _ => ⟨ob.slots, k b ob (fun z => hc (by simp [z])) (fun z => hc (by simp [z])) e⟩)
    (fun b ob hc _ n => by rw [upd_ne (fun z => hc (by simp [z]))]; exact n) (fun b ob hc e => ⟨ob, k b ob (fun z => hc (by simp [z])) (fun z => hc (by simp [z])) e⟩) (fun b _ e => up b _ e) (fun b _ _ e => up b _ e) (fun b ps e => ⟨#[], by rw [up b _ e]; simp⟩) (fun m hm => ?_) (fun b u e => ?_) I.bare
  · have e : b = it ∨ b = jt := by simpa using hb
    rcases e with e | e
    · subst e; exact ⟨h1, hL, h2, h3⟩
    · subst e; exact ⟨g1, gL, g2, g3⟩
  · obtain ⟨ob, es, ep, ho, r⟩ := hm
    exact ⟨ob, es, ep, k _ ob (Ne.symm hL) (Ne.symm gL) ho, r⟩
  · by_cases hb : b = it
    · rw [hb, upd_same] at e
      cases e
      rw [hb]
      exact new
    · rw [upd_ne hb] at e
      refine (I.hok b u e).stay (fun c v hc q => k c v ?_ ?_ q) (fun c q => up c _ q) fun c _ q => up c _ q
      · rcases hc with z | z
        · rw [z]; exact hb
        · exact nit c _ z
      · rcases hc with z | z
        · rw [z]; exact njt b u e
        · exact njt c _ z
end
theorem fp_next {X : Cx} {pins : List (Addr × Obj)} {H H' : Hp} {b : Addr} (f : FpOk X pins H b) (h : H' b = none) : FpOk X pins H' b := ⟨h, f.2⟩
/-- sorted's promise -/
def rSrt (K : PySem.W.Frag) (f : Addr) (sp : SpD) : List V → List V → Hp → VK → Prop := fun vs zs H Q => ∃ (a : Addr) (τ : Option Addr) (G : Hp) (c : Nat) (us : List V) (ds : List D) (kf : D → Int), vs = [.ref a] ∧ zs = [.ref f] ∧ W0 τ G H c ∧ H a = some (.lst us) ∧ Reps K τ G us ds ∧ ds.length ≤ 1000 ∧
  (∀ d ∈ ds, ∀ c P, P (.int (kf d)) c → sp [d] c P) ∧ ∀ l' us' G' H' p, l'.Perm ds → Step τ G H c G' H' c → Reps K τ G' us' l' → H p = none → H' p = none → Q (.ref p) (upd H' p (.lst us'))
theorem each_zip {α β : Type} {R : α → β → Prop} : ∀ {as : List α} {bs : List β}, as.length = bs.length → (∀ (i : Nat) (a : α) (b : β), as[i]? = some a → bs[i]? = some b → R a b) → EachIs R as bs
  | [], [], _, _ => .nil
  | a :: as, b :: bs, h, k => .cons (k 0 a b rfl rfl) (each_zip (by simpa using h) fun i x y hx hy => k (i + 1) x y (by simpa using hx) (by simpa using hy))
theorem each_get {α β : Type} {R : α → β → Prop} {as : List α} {bs : List β} (e : EachIs R as bs) : ∀ {i : Nat} {b : β}, bs[i]? = some b → ∃ a, as[i]? = some a ∧ R a b := by
  induction e with
  | nil => intro i b h; simp at h
  | cons r _ ih =>
    intro i b h
    cases i with
    | zero => simp at h; subst h; exact ⟨_, by simp, r⟩
    | succ i => obtain ⟨a, h1, h2⟩ := ih (by simpa using h); exact ⟨a, by simpa using h1, h2⟩
theorem vals_each {us : List V} {its : List Value} (e : EachIs (fun v u => RelV u v) its us) : Vals us its := by
  induction e with
  | nil => exact .nil
  | cons r _ ih => exact .cons r ih
theorem vals_fst {ms : List (V × D)} {its : List Value} (e : EachIs (fun v (p : V × D) => RelV p.1 v) its ms) : Vals (ms.map (·.1)) its := by
  induction e with
  | nil => exact .nil
  | cons r _ ih => exact .cons r ih
theorem vals_get' : ∀ {us : List V} {its : List Value} {i : Nat} {u : V} {v : Value}, Vals us its → us[i]? = some u → its[i]? = some v → RelV u v
  | _, _, _, _, _, .nil, h, _ => by simp at h
  | _, _, 0, _, _, .cons r _, h1, h2 => by simp at h1 h2; subst h1 h2; exact r
  | _, _, i + 1, _, _, .cons _ t, h1, h2 => vals_get' (i := i) t (by simpa using h1) (by simpa using h2)
theorem reps_all {K : PySem.W.Frag} {τ : Option Addr} {G : Hp} : ∀ {l : List (V × D)}, (∀ p ∈ l, Rep K τ G p.1 p.2) → Reps K τ G (l.map (·.1)) (l.map (·.2))
  | [], _ => .nil
  | p :: l, h => .cons (h p List.mem_cons_self) (reps_all fun q hq => h q (List.mem_cons_of_mem _ hq))
theorem ints_keys {h : Heap} : ∀ {l : List Value} {m : List Int}, IntsAre l m → EachIs (fun v k => ∃ as, PySem.Reads h v k as) l (m.map PyData.int)
  | _, _, .nil => .nil
  | _, _, .cons n t r => .cons ⟨[], .int n t⟩ (ints_keys r)
section
variable {X : Cx} {k : Nat} {f : Addr} {fd : FuncData} {ps : List Str} {sp : SpD}
theorem cr_srt (F : FnOk X.prog X.w X.K X.mg X.base CX0 k f fd ps (upF X.K 1 sp)) (hr : Room (k + 2) X.A) (hb : Binds X.K fd ps []) : CallRK X (.builtin "sorted") [Str.ofString "key"] (rSrt X.K f sp) := by
  intro pins s σ H vs zs us ws Q I r rz h
  obtain ⟨a, τ, G, c, xs, ds, kf, rfl, rfl, w0, ha, rp, hl1000, hkey, q⟩ := h
  obtain rfl := Vals.ref1 r
  obtain rfl := Vals.ref1 rz
  obtain ⟨its, rv, hl, hz⟩ := I.list (.of ha)
  have hr2 : Room k X.A.in1.in1 := Room.in1 (Room.in1 hr)
  have hlen : its.length = ds.length := by rw [← rv.length, rp.len]
  have hZ : its.length ≤ sizeLine := by rw [← rv.length]; exact hz
  refine sorted_of_sort hl.isList hZ (ksk_s1 _ _) (fun _ => ksk_l1 _ _) fun E' => ?_
  show wpAny _ _ (Builtin.«list.sort» ⟨[.ref (s.heap.objs.size + 1)], [(Str.ofString "key", .ref f)]⟩) _ _ _
  rw [ksk_t1]
  have hD0 := copyHeap_at s.heap its
  have old0 : ∀ b o, s.heap.get? b = some o → (copyHeap s.heap its).get? b = some o := fun b o e => copyHeap_old e
  generalize hDD : s.heap.objs.size + 1 = DD at *
  generalize hh1 : copyHeap s.heap its = h1 at *
  have hDlt : DD < h1.objs.size := Heap.lt_size hD0
  have hDge : s.heap.objs.size ≤ DD := by omega
  have hkSge : s.heap.objs.size ≤ h1.objs.size + 1 := by omega
  have hkD : h1.objs.size + 1 ≠ DD := by omega
  obtain ⟨e1, ho1⟩ : ∃ e1, (h1.update DD (Obj.mapSeq fun _ => (#[] : Array Value))).get? DD = some (seqObj "list" #[] e1) := ⟨_, get?_update_seq hD0 fun _ => #[]⟩
  have hsz : ((h1.update DD (Obj.mapSeq fun _ => (#[] : Array Value))).push (seqObj "tuple" its.toArray 0)).objs.size = h1.objs.size + 1 := by rw [size_push', Heap.size_update]
  unfold ksk_tree
  refine wpAny_bind (listItems_at hD0 rfl ?_)
  refine wpAny_bind (listUpdate_at hD0 rfl ?_ (by rw [List.size_toArray]; exact hZ) (Nat.zero_le _))
  refine wpAny_bind (seqEpoch_at ho1 rfl ?_)
  refine wpAny_bind (wpAny_newTuple ?_ (by show its.length ≤ _; exact hZ))
  refine wpAny_bind (wpAny_newList ?_ (Nat.zero_le _))
  refine wpAny_holding ?_
  have kS0 : (((h1.update DD (Obj.mapSeq fun _ => (#[] : Array Value))).push (seqObj "tuple" its.toArray 0)).push (seqObj "list" #[] 0)).get? (h1.objs.size + 1) = some (seqObj "list" #[] 0) := by
    rw [← hsz]; exact Heap.get?_push_size _ rfl
  have kD0 : (((h1.update DD (Obj.mapSeq fun _ => (#[] : Array Value))).push (seqObj "tuple" its.toArray 0)).push (seqObj "list" #[] 0)).get? DD = some (seqObj "list" #[] e1) := Heap.get?_push_of_some _ (Heap.get?_push_of_some _ ho1)
  have old1 : ∀ b o, s.heap.get? b = some o → (((h1.update DD (Obj.mapSeq fun _ => (#[] : Array Value))).push (seqObj "tuple" its.toArray 0)).push (seqObj "list" #[] 0)).get? b = some o := fun b o e => by
    have hbD : b ≠ DD := Nat.ne_of_lt (Nat.lt_of_lt_of_le (Heap.lt_size e) hDge)
    refine Heap.get?_push_of_some _ (Heap.get?_push_of_some _ ?_)
    rw [Heap.get?_update_ne _ _ _ _ hbD]
    exact old0 b o e
  show wpAny _ _ (ksk_rest DD (.ref f) false its.toArray e1 (.ref ((h1.update DD (Obj.mapSeq fun _ => (#[] : Array Value))).push (seqObj "tuple" its.toArray 0)).objs.size)) _ _ _
  rw [hsz]
  generalize ((h1.update DD (Obj.mapSeq fun _ => (#[] : Array Value))).push (seqObj "tuple" its.toArray 0)).push (seqObj "list" #[] 0) = h2 at *
  generalize h1.objs.size + 1 = kS at *
  have I2 : Inv X pins σ H { s with heap := h2 } := I.kept (t' := s.toks) old1
  have fD : FpOk X pins H DD := I.fpOk hDge (I.hok.fresh hDge)
  have fS : FpOk X pins H kS := I.fpOk hkSge (I.hok.fresh hkSge)
  unfold ksk_rest
  refine wpAny_bind (wpAny_rule ?_)
  first
    | rw [List.forIn_toArray]
    | (rw [← Array.forIn_toList]; simp only [List.toList_toArray])
    | rw [← Array.forIn_toList]
  refine wpAny_bind (ksk_fold (fun i s' => ∃ Hx Gx kA e, Inv X pins σ Hx s' ∧ Step τ G H c Gx Hx c ∧ Hx kS = none ∧ Hx DD = none ∧ s'.heap.get? kS = some (seqObj "list" kA e) ∧ s'.heap.get? DD = some (seqObj "list" #[] e1) ∧ IntsAre kA.toList ((ds.map kf).take i)) its 0 _
    ⟨H, G, #[], 0, I2, w0.refl, fS.1, fD.1, kS0, kD0, by rw [List.take_zero]; exact .nil⟩ ?step ?done)
  case step =>
    rintro j x s' hx ⟨Hx, Gx, kA, e, Ix, sx, nS, nD, gS, gD, hk⟩
    simp only [Nat.zero_add] at hk ⊢
    have hj : j < its.length := (List.getElem?_eq_some_iff.mp hx).1
    obtain ⟨d, hd⟩ : ∃ d, ds[j]? = some d := ⟨_, List.getElem?_eq_getElem (by omega)⟩
    obtain ⟨u, hu, ru⟩ := rp.get hd
    have hxu : RelV u x := vals_get' rv hu hx
    have hz' : kA.size ≤ its.length := by
      have h1 := hk.length
      rw [Array.length_toList, List.length_take, List.length_map] at h1
      omega
    have Ip := Ix.pinned (fp := [kS, DD]) (fun b hb => by
      rcases List.mem_cons.mp hb with e | hb
      · rw [e]; exact fp_next fS nS
      · rw [List.mem_singleton.mp hb]; exact fp_next fD nD) (fun b hb => by
      rcases List.mem_cons.mp hb with e | hb
      · rw [e]; exact ⟨_, gS, fun v q => by cases q⟩
      · rw [List.mem_singleton.mp hb]; exact ⟨_, gD, fun v q => by cases q⟩)
    have pS : (kS, seqObj "list" kA e) ∈ pinsAt [kS, DD] s'.heap := mem_pinsAt (List.mem_cons_self) gS
    have pD : (DD, seqObj "list" #[] e1) ∈ pinsAt [kS, DD] s'.heap := mem_pinsAt (List.mem_cons_of_mem _ List.mem_cons_self) gD
    refine wpAny_bind (wpAny_attempt (wpAny_mono (run_fnA (E' := fun _ _ => False) (Q := fun v H' => v = .int (kf d) ∧ ∃ G', Step τ G H c G' H' c) F hr2 hb Ip (.cons hxu .nil) ?_) (fun v s2 he => ?_) fun _ _ hF => hF.elim))
    · refine ⟨τ, Gx, [d], c, fun y c' => y = .int (kf d) ∧ c' = c, sx.w0 w0, .cons (ru.mono sx.gg) .nil, rfl, hkey d (List.mem_of_getElem? hd) c _ ⟨rfl, rfl⟩, ?_⟩
      rintro y c' v G' H' ⟨rfl, rfl⟩ s3 r3
      cases r3
      exact ⟨rfl, G', sx.trans w0 s3⟩
    · obtain ⟨y, H2, Iy, ry, rfl, G2, s2x⟩ := he
      obtain ⟨t2, rfl⟩ := ry
      have qS := Iy.pin _ (List.mem_append_right _ (List.mem_append_right _ pS))
      have qD := Iy.pin _ (List.mem_append_right _ (List.mem_append_right _ pD))
      try dsimp only
      refine wpAny_bind (listUpdate_at qS.1 rfl ?_ (Nat.le_trans hz' hZ) (Nat.le_trans (Nat.le_of_eq (Array.size_push ..)) (Nat.succ_le_succ (Nat.le_trans hz' hZ))))
      have s1 := Heap.SameBut.update s2.heap kS (Obj.mapSeq (·.push (.int (kf d) t2)))
      obtain ⟨c2, hc2⟩ : ∃ c2, (s2.heap.update kS (Obj.mapSeq (·.push (.int (kf d) t2)))).get? kS = some (seqObj "list" (kA.push (.int (kf d) t2)) c2) := ⟨_, get?_update_seq qS.1 (·.push (.int (kf d) t2))⟩
      have ek : (ds.map kf).take (j + 1) = (ds.map kf).take j ++ [kf d] := by rw [List.take_add_one, List.getElem?_map, hd]; rfl
      have ea : (kA.push (Value.int (kf d) t2)).toList = kA.toList ++ [Value.int (kf d) t2] := by simp
      have fS2 := fp_next fS qS.2.1
      refine wpAny_pure ⟨rfl, H2, G2, kA.push (.int (kf d) t2), c2, Iy.unpinned.turned (t' := s2.toks) (it := kS) (fun b o hb e => (s1.2 b hb).trans e) fS2.1 fS2.2.1 fS2.2.2.2.1 fS2.2.2.2.2.1 fS2.2.2.2.2.2, s2x, qS.2.1, qD.2.1, hc2, (s1.2 DD hkD.symm).trans qD.1, ?_⟩
      rw [ea, ek]
      exact ksk_snoc hk
  case done =>
    rintro s' ⟨Hx, Gx, kA, e, Ix, sx, nS, nD, gS, gD, hk⟩
    have hk' : IntsAre kA.toList (ds.map kf) := by
      have e3 : (ds.map kf).take (0 + its.length) = ds.map kf := List.take_of_length_le (by rw [List.length_map]; omega)
      rw [e3] at hk
      exact hk
    have hsz' : kA.size = its.length := by
      have h1 := hk'.length
      rw [Array.length_toList, List.length_map] at h1
      omega
    have hkey' : EachIs (fun v k => ∃ as, Reads s'.heap v k as) kA.toList ((xs.zip ds).map fun p => PyData.int (kf p.2)) := by
      have e : ((xs.zip ds).map fun p => PyData.int (kf p.2)) = (ds.map kf).map PyData.int := by
        rw [show (fun p : V × D => PyData.int (kf p.2)) = (PyData.int ∘ kf) ∘ Prod.snd from rfl, ← List.map_map, List.map_snd_zip (by rw [rp.len]; exact Nat.le_refl _), List.map_map]
      rw [e]
      exact ints_keys hk'
    try dsimp only
    refine wpAny_bind (listItems_at gS rfl ?_)
    have hal : AllAlike ((xs.zip ds).map fun p => PyData.int (kf p.2)) := AllAlike.of fun _ _ => by simp [alike]
    have hsk : Sortable ((xs.zip ds).map fun p => PyData.int (kf p.2)) := Sortable.others fun _ => ⟨(fun z => by cases z), fun _ z => by cases z⟩
    have hu : ∀ d, d ∈ ((xs.zip ds).map fun p => PyData.int (kf p.2)) → X.A.in1.in1.units + d.depth < cLine := fun d hd => by
      obtain ⟨p, _, rfl⟩ := List.mem_map.mp hd
      have := hr2.un
      have e : (PyData.int (kf p.2)).depth = 0 ∨ (PyData.int (kf p.2)).depth = 1 := by simp [PyData.depth]
      omega
    refine keyH_end (κ := dataKind s'.heap ((xs.zip ds).map fun p => PyData.int (kf p.2))) (h₁ := PySem.W.hideAll s'.heap [kS]) (fun b o _ e => of_hideAll [kS] e) (hideAll_none [kS] (List.mem_singleton.mpr rfl)) gS gD hkD (SortsAt.data hkey' hal hsk hu) hsz' hZ fun h3 tk3 c3 kp3 n3 => ⟨rfl, ?_⟩
    have ko : KeyedOut false ((xs.zip ds).map fun p => PyData.int (kf p.2)) its (sortVals (dataKind s'.heap ((xs.zip ds).map fun p => PyData.int (kf p.2))) false kA.toList its) := ⟨s'.heap, kA.toList, hal, rfl, hkey'⟩
    have hR : EachIs (fun v (p : V × D) => RelV p.1 v) its (xs.zip ds) := each_zip (by rw [List.length_zip, rp.len]; omega) fun i v p h1 h2 => by
      obtain ⟨h3, h4⟩ := List.getElem?_zip_eq_some.mp h2
      exact vals_get' rv h3 h1
    have eo := keyedOut_each (fun p : V × D => PyData.int (kf p.2)) ko hR
    have pm := List.mergeSort_perm (xs.zip ds) (dataLe false fun p : V × D => PyData.int (kf p.2))
    generalize sortVals (dataKind s'.heap ((xs.zip ds).map fun p => PyData.int (kf p.2))) false kA.toList its = out at *
    generalize (xs.zip ds).mergeSort (dataLe false fun p : V × D => PyData.int (kf p.2)) = ms at *
    have hall : ∀ p ∈ xs.zip ds, Rep X.K τ G p.1 p.2 := fun p hp => by
      obtain ⟨i, hi⟩ := List.mem_iff_getElem?.mp hp
      obtain ⟨h3, h4⟩ := List.getElem?_zip_eq_some.mp hi
      obtain ⟨v, hv, r⟩ := rp.get h4
      rw [h3] at hv
      cases hv
      exact r
    have hm : (ms.map (·.2)).Perm ds := by
      have := pm.map (·.2)
      rwa [List.map_snd_zip (by rw [rp.len]; exact Nat.le_refl _)] at this
    have hrm : Reps X.K τ Gx (ms.map (·.1)) (ms.map (·.2)) := reps_all fun p hp => (hall p (pm.mem_iff.mp hp)).mono sx.gg
    have hlm : (ms.map (·.1)).length ≤ sizeLine := by
      rw [List.length_map, pm.length_eq, List.length_zip, rp.len]
      omega
    have vo : Vals (ms.map (·.1)) out := vals_fst eo
    refine ⟨.ref DD, upd Hx DD (.lst (ms.map (·.1))), Inv.take2 (t' := tk3) Ix (fun b o h4 h5 e => kp3 b o h4 (hideAll_get [kS] e (by simpa using h5))) (fp_next fD nD) (fp_next fS nS) ⟨hlm, out, c3, vo, n3⟩, rfl, ?_⟩
    exact q _ _ Gx Hx DD hm sx hrm (I.hok.fresh hDge) nD
variable {n : Nat} {x : Str} {e : Expr} {p pos kp p2 : Pos} {t : TAD}
@[simp] def sortkD (sp : SpD) (ds : List D) (Q : D → Prop) : Prop := ∃ (l : List D) (kf : D → Int), ds = [.lst l] ∧ l.length ≤ 1000 ∧ (∀ d ∈ l, ∀ c P, P (.int (kf d)) c → sp [d] c P) ∧ ∀ l', l'.Perm l → Q (.lst l')
theorem pfd_sortk {j : Nat} (F : Kn X.prog X.w X.K X.mg X.base x j ps sp) (hn : ps.length = 1) (hr : Room k X.A) (h : j + 2 ≤ k) (hg : Gl X "sorted") (hm : X.mg "sorted" = none) (hgx : Gl X x) (ha : PAB X [e] t) (hdb : (x == ("__debug__" : Str)) = false := by decide)
    (he : backTo pos (starEach [e] X.env) = (false, eval e X.env) :: backTo pos (starEach [] X.env) := by rfl) (hpl : (backTo pos (starEach [e] X.env)).any (·.1) = false := by rfl)
    (hnone : (backToKw pos (keywordEach [⟨some "key", .Name x p2, kp⟩] X.env)).any (·.1.isNone) = false := by rfl) (hall : (backToKw pos (keywordEach [⟨some "key", .Name x p2, kp⟩] X.env)).all (·.1.isSome) = true := by rfl)
    (hks : (backToKw pos (keywordEach [⟨some "key", .Name x p2, kp⟩] X.env)).filterMap (·.1) = [Str.ofString "key"] := by rfl) :
    PF X (.Call (.Name "sorted" p) [e] [⟨some "key", .Name x p2, kp⟩] pos) (dCall (sortkD sp) t) := by
  obtain ⟨f, fd, F, hmf, hk, hb⟩ := F
  rw [hn] at F
  refine pe_imp (pe_callBK (cr_srt F (hr.mono h) hb) hg hm boot_sorted ha (pk_cons (pe_glob hgx hmf (v := .ref f) rfl hdb) pk_nil) (he := he) (hpl := hpl) (hnone := hnone) (hall := hall) (hks := hks)) ?_
  intro σ H Q ⟨τ, H0, G, ρ, c, P, w, en, p, q⟩
  refine ⟨τ, H0, G, ρ, c, _, w, en, p, fun ds c1 vs G1 H1 p1 s1 r1 => ?_⟩
  obtain ⟨l, kf, rfl, hl, hkf, hP⟩ := p1
  cases r1 with
  | cons r1 r2 =>
    cases r2
    obtain ⟨a, us, rfl, hu, ru⟩ := off (s1.w0 w) r1
    refine ⟨a, τ, G1, c1, us, l, kf, rfl, rfl, s1.w0 w, hu, ru, hl, hkf, fun l' us' G' H' b hp sp rp hn hn' => ?_⟩
    have s2 := s1.trans w sp
    have g0 : G' b = none := by
      cases e : G' b with
      | none => rfl
      | some o =>
        have := (s2.w0 w).le _ _ e
        rw [hn'] at this
        cases this
    have z0 : H b = none := Classical.byContradiction fun k => s1.still w.tn k hn
    have z1 : τ ≠ some b := fun z => W0.tin_some (s1.w0 w).tn z hn
    exact q _ c1 _ G' _ (hP l' hp) (s2.trans w (.laidF (s2.w0 w) hn')) ⟨b, us', l', rfl, rfl, upd_same, rp, g0, z0, z1⟩
end
end Pd
end
section
set_option Elab.async false
set_option linter.all false
set_option maxRecDepth 100000
/-! PD9: sorted(d), d a dict whose keys are pairs. -/
namespace Pd
open PySem PySem.Spec PyProof.Rows L2 PySem.W
section
variable {X : Cx}
def PairKeys (kvs : List (List Key × V)) : Prop := kvs.length < 64 ∧ ∀ p ∈ kvs, ∃ m k : Int, p.1 = [.inl m, .inl k] ∧ 0 ≤ m ∧ m < 64 ∧ 0 ≤ k ∧ k < 64
theorem kt_mem {H : Hp} : ∀ {kvs : List (List Key × V)} {xs : List (List Key × Addr × Value)}, KT H kvs xs → ∀ x ∈ xs, ∃ p ∈ kvs, H x.2.1 = some (.tup (p.1.map kV))
  | _, _, .nil, x, h => by simp at h
  | _, _, .cons a b, x, h => by
    rcases List.mem_cons.mp h with e | h
    · subst e; exact ⟨_, List.mem_cons_self, a.2.1⟩
    · obtain ⟨p, hp, e⟩ := kt_mem b x h
      exact ⟨p, List.mem_cons_of_mem _ hp, e⟩
def rSDT : List V → Hp → VK → Prop := fun xs H Q => ∃ (d : Addr) (kvs : List (List Key × V)), xs = [V.ref d] ∧ Rd H d (.dT kvs) ∧ PairKeys kvs ∧ ∀ (p : Addr) (bs bs' : List Addr), H p = none → IsKeys H kvs bs → bs'.Perm bs → Q (.ref p) (upd H p (.lst (bs'.map V.ref)))
theorem map_back {bs : List Addr} : ∀ {l : List Value}, l.Perm (bs.map Value.ref) → ∃ bs' : List Addr, l = bs'.map Value.ref ∧ bs'.Perm bs := fun {l} h => by
  obtain ⟨l', p, e⟩ := perm_lift Value.ref h bs rfl
  exact ⟨l', e.symm, p⟩
theorem call_sortedDT (hc : X.calm = true) : CallR X (.builtin "sorted") rSDT := by
  intro pins s σ H xs us Q I r h
  obtain ⟨d, kvs, rfl, hd, ⟨h64, hpk⟩, q⟩ := h
  obtain ⟨u, rfl, rx⟩ := r.one
  cases rx
  obtain ⟨z, hs, ks, pr, o, es, ep, ho, hx, hdt, he, hn⟩ := (show ObjOk X.prog X.w H s.heap d (.dT kvs) from hd.ok I.hok)
  have l1 : es.size = ks.length := size_of_entries he
  have l2 : kvs.length = ks.length := Paired.length pr
  refine Calls.call_function_entry PyProof.Rows.kind_sorted PyProof.Rows.plain_sorted PyProof.Rows.entry_sorted (PyProof.Rows.args_sorted1 _) ?_
  unfold Builtin.«sorted»
  refine wpAny_bind (m := checkCount "sorted" 1 1 _) (wpAny_pure ?_)
  refine wpAny_bind (PySem.W.kdu_collect (A := X.A.in1) (kdl_raw hs hx hdt) (I.ok.hd hc) ho (by rw [sizeLine_eq]; omega) fun h' tk acc' kp it => ?_)
  have ea : acc'.toList = ks.map fun x => Value.ref x.2.1 := by
    have hl : acc'.toList.length = ks.length := by rw [Array.length_toList, it.1]; exact l1
    apply List.ext_getElem?
    intro j
    rw [List.getElem?_map]
    cases hj : acc'.toList[j]? with
    | none =>
      have h1 := List.getElem?_eq_none_iff.mp hj
      rw [List.getElem?_eq_none (by omega)]
      all_goals rfl
    | some v =>
      obtain ⟨en, hen, hv⟩ := it.2 j v (by rw [← Array.getElem?_toList]; exact hj)
      have qe := entry_at he j
      rw [hen] at qe
      cases hb : ks[j]? with
      | none =>
        rw [hb] at qe
        exact nomatch (show some en = none from qe)
      | some b =>
        rw [hb] at qe
        have e2 : en = entryOfKey (tupleKind (mixKind X.prog X.w)) b := Option.some.inj qe
        rw [hv, e2]
        all_goals rfl
  have eb : acc'.toList = (ks.map fun x => x.2.1).map Value.ref := by rw [ea, List.map_map]; all_goals rfl
  have I1 : Inv X pins σ H { s with heap := h', toks := tk } := I.kept kp
  have hal : acc'.toList.length = ks.length := by rw [ea, List.length_map]
  have tk0 : TS.TupsOk h' 2 64 acc'.toList := fun v hv => by
    rw [ea] at hv
    obtain ⟨x, hx, rfl⟩ := List.mem_map.mp hv
    obtain ⟨p, hp, e⟩ := kt_mem pr x hx
    obtain ⟨m, k, e2, b1, b2, b3, b4⟩ := hpk p hp
    rw [e2] at e
    have t := tupI_raw I1 (t := x.2.1) (ns := [m, k]) (.inl (.inl e))
    refine ⟨[m, k], t, rfl, fun y hy => ?_⟩
    rcases List.mem_cons.mp hy with e | hy
    · subst e; exact ⟨b1, b2⟩
    · rw [List.mem_singleton.mp hy]; exact ⟨b3, b4⟩
  refine wpAny_bind (wpAny_newList ?_ (by rw [hal, sizeLine_eq]; omega))
  have hoL : (h'.push (seqObj "list" acc'.toList.toArray 0)).get? h'.objs.size = some (seqObj "list" acc'.toList.toArray 0) := Heap.get?_push_size _ rfl
  show wpAny _ _ _ _ _ { s with heap := h'.push (seqObj "list" acc'.toList.toArray 0), toks := tk }
  have tk1 : TS.TupsOk (h'.push (seqObj "list" acc'.toList.toArray 0)) 2 64 acc'.toList := tk0.keeps fun b o e _ => Heap.get?_push_of_some _ e
  refine wpAny_bind (wpAny_holding (wpAny_call_entry PyProof.Rows.slot_list_sort ⟨_, hoL, rfl⟩ PyProof.Rows.entry_list_sort
    (TS.sort_tups (s := { s with heap := h'.push (seqObj "list" acc'.toList.toArray 0), toks := tk }) hoL (by rw [hal]; omega) (by decide) tk1 (fun v => TS.code 64 (TS.intsOf (h'.push (seqObj "list" acc'.toList.toArray 0)) v)) (fun v hv ns t => by
      show TS.code 64 (TS.intsOf _ v) = _
      rw [t.ints]) fun out g2 g3 => ⟨_, rfl, ?_⟩) (PyProof.Rows.args_list_sort _)))
  obtain ⟨e', he'⟩ := PyProof.Rows.sortedHeap_at (vs := acc'.toList) (out := out) hoL
  rw [eb] at g2
  obtain ⟨bs', e3, pm⟩ := map_back g2
  have hlen : (bs'.map V.ref).length ≤ sizeLine := by
    rw [List.length_map, pm.length_eq, List.length_map, sizeLine_eq]
    omega
  refine wpAny_pure ⟨_, rfl, .ref h'.objs.size, upd H h'.objs.size (.lst (bs'.map V.ref)), I1.laid (t' := tk) (fun b u e => ?_) (Nat.le_refl _)
    (show ObjOk X.prog X.w _ _ _ (.lst (bs'.map V.ref)) from ⟨hlen, out.toList, e', by rw [e3]; exact vals_refs _, by rw [Array.toArray_toList]; exact he'⟩), rfl, q _ _ bs' (I1.hok.fresh (Nat.le_refl _)) (isKeys_of pr) pm⟩
  have hb : b < h'.objs.size := Heap.lt_size e
  rw [PyProof.Rows.sortedHeap_old (Nat.ne_of_lt hb) (by rw [size_push']; exact Nat.lt_succ_of_lt hb)]
  exact Heap.get?_push_of_some _ e
end
/-- tuples of ours join the ghost -/
theorem Step.joins {τ : Option Addr} {G H : Hp} {c : Nat} (w : W0 τ G H c) : ∀ (ks : List (Int × Int)) (bs : List Addr), Paired (fun (p : Int × Int) b => H b = some (.tup [.int p.1, .int p.2])) ks bs →
    ∃ G', Step τ G H c G' H c ∧ Paired (fun (p : Int × Int) b => G' b = some (.tup [.int p.1, .int p.2])) ks bs
  | _, _, .nil => ⟨G, w.refl, .nil⟩
  | _, _, .cons (a := p) (b := b) e t => by
    obtain ⟨G1, s1, t1⟩ := Step.joins w _ _ t
    by_cases hg : G1 b = none
    · have up : ∀ a o, G1 a = some o → upd G1 b (.tup [.int p.1, .int p.2]) a = some o := fun a o h => by
        rw [upd_ne (ne_of_none h hg)]; exact h
      refine ⟨upd G1 b (.tup [.int p.1, .int p.2]), ⟨fun a o h => up a o (s1.gg a o h), fun a o h => ?_, fun a o h _ => h, fun a h k => ?_, w.tn⟩, .cons upd_same (Paired.mapP t1 fun _ _ z => up _ _ z)⟩
      · by_cases z : a = b
        · subst z; rw [upd_same] at h; rw [← h]; exact e
        · rw [upd_ne z] at h; exact s1.gh a o h
      · rw [upd_ne ?_]
        · exact s1.gn a h k
        · rintro rfl
          obtain ⟨o, h1, h2⟩ := k
          rw [e] at h1
          exact h2 _ (Option.some.inj h1).symm
    · obtain ⟨o, ho⟩ : ∃ o, G1 b = some o := by
        cases q : G1 b with
        | none => exact absurd q hg
        | some o => exact ⟨o, rfl⟩
      have := s1.gh b o ho
      rw [e] at this
      cases this
      exact ⟨G1, s1, .cons ho t1⟩
section
variable {X : Cx} {e : Expr} {p pos : Pos} {t : TAD}
@[simp] def sortdD (ds : List D) (Q : D → Prop) : Prop := ∃ (l : List ((Int × Int) × Bool)), ds = [.dic l] ∧ l.length < 64 ∧ (∀ q ∈ l, 0 ≤ q.1.1 ∧ q.1.1 < 64 ∧ 0 ≤ q.1.2 ∧ q.1.2 < 64) ∧ ∀ ks : List (Int × Int), ks.Perm (l.map (·.1)) → Q (.lst (ks.map fun k => .tup [.int k.1, .int k.2]))
theorem keys_paired {H : Hp} : ∀ {l : List ((Int × Int) × Bool)} {bs : List Addr}, IsKeys H (dKV l) bs → Paired (fun (p : Int × Int) b => H b = some (.tup [.int p.1, .int p.2])) (l.map (·.1)) bs
  | [], _, .nil => .nil
  | _ :: _, _, .cons a t => .cons a (keys_paired t)
theorem paired_perm {α β : Type} {F : α → β → Prop} {bs bs' : List β} (pm : bs'.Perm bs) : ∀ {as : List α}, Paired F as bs → ∃ as', as'.Perm as ∧ Paired F as' bs' := by
  induction pm with
  | nil => intro as h; exact ⟨as, .refl _, h⟩
  | cons x _ ih =>
    intro as h
    cases h with
    | cons a t => obtain ⟨as', p, h⟩ := ih t; exact ⟨_ :: as', p.cons _, .cons a h⟩
  | swap x y l =>
    intro as h
    cases h with
    | cons a t => cases t with
      | cons b t => exact ⟨_, .swap _ _ _, .cons b (.cons a t)⟩
  | trans _ _ ih1 ih2 =>
    intro as h
    obtain ⟨as2, p2, h2⟩ := ih2 h
    obtain ⟨as1, p1, h1⟩ := ih1 h2
    exact ⟨as1, p1.trans p2, h1⟩
theorem paired_reps {K : PySem.W.Frag} {τ : Option Addr} {G : Hp} : ∀ {ks : List (Int × Int)} {bs : List Addr}, Paired (fun (p : Int × Int) b => G b = some (.tup [.int p.1, .int p.2])) ks bs → Reps K τ G (bs.map V.ref) (ks.map fun k => D.tup [.int k.1, .int k.2])
  | _, _, .nil => .nil
  | _, _, .cons a t => .cons (.tup (.inl (.inl a)) (.cons (.int _) (.cons (.int _) .nil))) (paired_reps t)
theorem pfd_sortd (hc : X.calm = true) (hg : Gl X "sorted") (hm : X.mg "sorted" = none) (ha : PAD X [e] t)
    (he : starEach [e] X.env = (false, eval e X.env) :: starEach [] X.env := by rfl) (hpl : (backTo pos (starEach [] X.env)).any (·.1) = false := by rfl) :
    PF X (.Call (.Name "sorted" p) [e] [] pos) (dCall sortdD t) := by
  refine up_call bkF ?_ (pe_callB (call_sortedDT hc) hg hm boot_sorted ha (he := he) (hpl := hpl))
  intro τ Ha G H c vs ds P Q w0 r1 hf q
  obtain ⟨l, rfl, hl, hk, hP⟩ := hf
  cases r1 with
  | cons r1 r2 =>
    cases r2
    cases r1 with
    | @dic a _ h =>
      refine ⟨a, dKV l, rfl, .inl (w0.le _ _ h), ⟨by simpa [dKV] using hl, fun p hp => ?_⟩, fun b bs bs' hb hk pm => ?_⟩
      · obtain ⟨x, hx, rfl⟩ := List.mem_map.mp hp
        obtain ⟨h1, h2, h3, h4⟩ := hk x hx
        exact ⟨_, _, rfl, h1, h2, h3, h4⟩
      · obtain ⟨ks, pk, pr⟩ := paired_perm pm (keys_paired hk)
        obtain ⟨G', s1, pr'⟩ := Step.joins w0 _ _ pr
        have g0 : G' b = none := by
          cases e : G' b with
          | none => rfl
          | some o =>
            have := s1.gh _ _ e
            rw [hb] at this
            cases this
        exact q _ _ G' _ (hP ks pk) (s1.trans w0 (.laidF (s1.w0 w0) hb)) ⟨b, _, _, rfl, rfl, upd_same, paired_reps pr', g0, hb, fun z => W0.tin_some w0.tn z hb⟩
end
end Pd
end
section
set_option Elab.async false
set_option linter.all false
set_option maxRecDepth 100000
/-! PD10: comprehensions of two clauses. -/
namespace Pd
open PySem PySem.Spec PyProof.Rows L2 PySem.W
/-! comprehensions of two clauses -/
theorem wipe_idem (vs : List Nat) (σ : L2.St) : wipe (wipe σ vs) vs = wipe σ vs := by
  have idem : ∀ (ws : List Nat) (i : Nat) (σ : L2.St), wipe (σ.set i none) ws = (wipe σ ws).set i none := by
    intro ws
    induction ws with
    | nil => intro i σ; rfl
    | cons w ws ih =>
      intro i σ
      unfold wipe
      rw [ih]
      by_cases hw : w = i
      · subst hw; rfl
      · rw [List.set_comm _ _ (Ne.symm hw)]
  have : ∀ (ws : List Nat) (σ : L2.St), wipe (wipe σ ws) ws = wipe σ ws := by
    intro ws
    induction ws with
    | nil => intro σ; rfl
    | cons w ws ih =>
      intro σ
      show (wipe ((wipe σ ws).set w none) ws).set w none = (wipe σ ws).set w none
      rw [idem, ih, List.set_set]
  exact this vs σ
/-- nothing of one's own -/
def Sl.non : Sl → Sl
  | .va d => .va d
  | _ => .no
@[simp] def noOwn (ρ : Rho) : Rho := ρ.map Sl.non
@[simp] theorem non_va (d : D) : Sl.non (.va d) = .va d := rfl
@[simp] theorem non_no : Sl.non .no = .no := rfl
@[simp] theorem non_ow (d : List D) : Sl.non (.ow d) = .no := rfl
theorem non_get {ρ : Rho} {i : Nat} {s : Sl} (h : (noOwn ρ)[i]? = some s) : s = .no ∨ ∃ d, s = .va d ∧ ρ[i]? = some (.va d) := by
  rw [noOwn, List.getElem?_map] at h
  obtain ⟨t, ht, e⟩ := Option.map_eq_some_iff.mp h
  cases t with
  | va d => exact .inr ⟨d, e.symm, ht⟩
  | no => exact .inl e.symm
  | ow l => exact .inl e.symm
  | od l => exact .inl e.symm
theorem EnvR.nonOwn {K : PySem.W.Frag} {τ : Option Addr} {H0 G H G' H' : Hp} {σ : L2.St} {ρ : Rho} (en : EnvR K τ H0 G H σ ρ) (g : ∀ a o, G a = some o → G' a = some o) : EnvR K τ H0 G' H' σ (noOwn ρ) where
  len := by rw [noOwn, List.length_map]; exact en.len
  va := fun i d h => by
    rcases non_get h with h | ⟨d', h, h2⟩
    · cases h
    · cases h
      obtain ⟨v, a, r⟩ := en.va i _ h2
      exact ⟨v, a, r.mono g⟩
  ow := fun i d h => by
    rcases non_get h with h | ⟨d', h, h2⟩ <;> cases h
  od := fun i d h => by
    rcases non_get h with h | ⟨d', h, h2⟩ <;> cases h
  ap := fun i j s t p h1 h2 o1 o2 _ _ => by
    rcases non_get h1 with h | ⟨d', h, h2⟩
    · subst h; cases o1
    · subst h; cases o1
def lc2T (g : TGD) (ti1 : TAD) (g1 : TGD) (te : TD) (vs1 : List Nat) : List D → Rho → Nat → List D → (List D → Nat → Prop) → Prop
  | [], _, c, acc, Q => Q acc c
  | x :: xs, ρ, c, acc, Q => g x ρ fun ρ1 => ti1 ρ1 c fun items1 c1 => items1.length ≤ 1000 ∧ lcT g1 yesD te items1 (noOwn (forgetR ρ1 vs1)) c1 acc fun acc2 c2 => lc2T g ti1 g1 te vs1 xs ρ c2 acc2 Q
@[simp] def dLc2 (ti : TAD) (g : TGD) (ti1 : TAD) (g1 : TGD) (te : TD) (vs vs1 : List Nat) : TD := fun ρ c Q => ti ρ c fun items c1 => items.length ≤ 1000 ∧ lc2T g ti1 g1 te vs1 items (forgetR ρ vs) c1 [] fun acc c2 => Q (.lst acc) c2
section
variable {X : Cx}
theorem ent_lc2 {g g1 : TG} {gd gd1 : TGD} {js js1 vs vs1 : List Nat} {ti ti1 : TAD} {te : TD} (hg : GOk X.K g gd js) (hj : ∀ i ∈ js, i ∈ vs) (hg1 : GOk X.K g1 gd1 js1) (hj1 : ∀ i ∈ js1, i ∈ vs1) :
    ∀ σ H Q, upE RF X.K (dLc2 ti gd ti1 gd1 te vs vs1) σ H Q → tLc2 (upI true X.K ti) g (upT X.K yesD) (upI false X.K ti1) g1 (upT X.K yesD) (upE RP X.K te) vs vs1 σ H Q := by
  intro σ H Q ⟨τ, H0, G, ρ, c, P, w, en, p, q⟩
  refine ⟨τ, H0, G, ρ, c, _, w, en, p, fun items c1 J G1 H1 ⟨hlen, p1⟩ s1 it D hD => ?_⟩
  have w1 := s1.w0 w
  have en1 := en.step s1
  have nD : τ ≠ some D := t_ne s1.tn hD
  have gD := g_none w1 hD
  refine ⟨fun i m Hx => ∃ Gx cx acc us, m = items.length - i ∧ i ≤ items.length ∧ Step τ G1 H1 c1 Gx Hx cx ∧ Hx D = some (.lst us) ∧ Gx D = none ∧ Reps X.K τ Gx us acc ∧ acc.length ≤ 1000 * i ∧
    lc2T gd ti1 gd1 te vs1 (items.drop i) (forgetR ρ vs) cx acc (fun acc c2 => P (.lst acc) c2), ⟨items.length, G1, c1, [], [], by simp, Nat.zero_le _, .laidF w1 hD, upd_same, gD, .nil, Nat.zero_le _, by simpa using p1⟩, ?_⟩
  rintro i m Hx ⟨Gx, cx, acc, us, rfl, hi, sx, hDx, gDx, rx, hax, px⟩
  have wx := sx.w0 w1
  obtain ⟨go, stop, yl⟩ := it Gx Hx cx wx sx.gg (fun _ => sx.hh)
  by_cases hlt : i < items.length
  · refine .inr ⟨go i hlt, _, fun H' h => h, fun x H' hy => ?_⟩
    rw [List.drop_eq_getElem_cons hlt] at px
    obtain ⟨G2, s2, r2⟩ := yl i x H' items[i] (List.getElem?_eq_getElem hlt) hy
    have s12 := sx.trans w1 s2
    refine hg τ H0 G2 H' cx (wipe σ vs) (forgetR ρ vs) x items[i] _ _ (s12.w0 w1) ((en1.forget vs).step s12) r2 px fun σ3 ρ3 p3 e3 k3 => ?_
    refine ⟨by
      have ww : ∀ vs' : List Nat, (∀ i ∈ js, i ∈ vs') → wipe σ3 vs' = wipe (wipe σ vs) vs' := k3
      rw [ww vs hj]; exact wipe_idem vs σ, τ, H0, G2, ρ3, cx, fun k c => k = true ∧ c = cx, s12.w0 w1, e3, ⟨rfl, rfl⟩, ?_⟩
    rintro k c4 G4 H4 ⟨rfl, rfl⟩ s4
    refine iteT ?_
    have s14 := s12.trans w1 s4
    have s24 := s2.trans wx s4
    refine ⟨τ, H0, G4, ρ3, c4, _, s14.w0 w1, e3.step s4, p3, fun items1 c5 J1 G5 H5 ⟨hlen1, p5⟩ s5 it1 => ?_⟩
    have s25 := s24.trans wx s5
    have s15 := s14.trans w1 s5
    have w5 := s15.w0 w1
    have hD5 : H5 D = some (.lst us) := s25.hh _ _ hDx nD
    have gD5 : G5 D = none := s25.gn _ gDx (.l hDx)
    refine ⟨fun j k Hy => ∃ Gy cy acc1 us1, k = items1.length - j ∧ j ≤ items1.length ∧ Step τ G1 H1 c1 Gy Hy cy ∧ (∀ a o, G5 a = some o → Gy a = some o) ∧ EnvR X.K τ H0 Gy Hy (wipe σ3 vs1) (noOwn (forgetR ρ3 vs1)) ∧ Hy D = some (.lst us1) ∧ Gy D = none ∧ Reps X.K τ Gy us1 acc1 ∧ acc1.length ≤ 1000 * i + j ∧
      lcT gd1 yesD te (items1.drop j) (noOwn (forgetR ρ3 vs1)) cy acc1 (fun acc2 c2 => lc2T gd ti1 gd1 te vs1 (items.drop (i + 1)) (forgetR ρ vs) c2 acc2 fun acc c2 => P (.lst acc) c2),
      ⟨items1.length, G5, c5, acc, us, by simp, Nat.zero_le _, s15, fun _ _ h => h, (((e3.step s4).step s5).forget vs1).nonOwn fun _ _ h => h, hD5, gD5, rx.mono s25.gg, by omega, by simpa using p5⟩, ?_⟩
    rintro j k Hy ⟨Gy, cy, acc1, us1, rfl, hj1', sy, gy, ey, hDy, gDy, ry, hay, py⟩
    have wy := sy.w0 w1
    obtain ⟨go1, stop1, yl1⟩ := it1 Gy Hy cy wy gy (fun z => nomatch z)
    by_cases hlt1 : j < items1.length
    · refine .inr ⟨go1 j hlt1, _, fun H' h => h, fun x1 H6 hy1 => ?_⟩
      rw [List.drop_eq_getElem_cons hlt1] at py
      obtain ⟨G6, s6, r6⟩ := yl1 j x1 H6 items1[j] (List.getElem?_eq_getElem hlt1) hy1
      have s16 := sy.trans w1 s6
      refine hg1 τ H0 G6 H6 cy (wipe σ3 vs1) (noOwn (forgetR ρ3 vs1)) x1 items1[j] _ _ (s16.w0 w1) (ey.step s6) r6 py fun σ7 ρ7 p7 e7 k7 => ?_
      refine ⟨by
        have ww : ∀ vs' : List Nat, (∀ i ∈ js1, i ∈ vs') → wipe σ7 vs' = wipe (wipe σ3 vs1) vs' := k7
        rw [ww vs1 hj1]; exact wipe_idem vs1 σ3, τ, H0, G6, ρ7, cy, fun k c => k = true ∧ c = cy, s16.w0 w1, e7, ⟨rfl, rfl⟩, ?_⟩
      rintro k c8 G8 H8 ⟨rfl, rfl⟩ s8
      have p7' := p7
      simp only [yesD, if_true] at p7'
      have s18 := s16.trans w1 s8
      have s68 := s6.trans wy s8
      refine iteT ⟨τ, H0, G8, ρ7, c8, _, s18.w0 w1, e7.step s8, p7', fun y c9 u G9 H9 p9 s9 r9 => ?_⟩
      have s69 := s68.trans wy s9
      have s19 := s18.trans w1 s9
      have hD9 : H9 D = some (.lst us1) := s69.hh _ _ hDy nD
      have gD9 : G9 D = none := s69.gn _ gDy (.l hDy)
      refine ⟨us1, hD9, ?_, items1.length - (j + 1), by omega, G9, c9, acc1 ++ [y], us1 ++ [u], rfl, hlt1, s19.write gD9 hD nD, fun a o h => s69.gg a o (gy a o h), ?_, upd_same, gD9, (ry.mono s69.gg).app (.cons r9 .nil), ?_, p9⟩
      · rw [ry.len]; exact big_lt (by omega)
      · exact (((e3.step s4).step s5).forget vs1).nonOwn fun a o h => s69.gg a o (gy a o h)
      · rw [List.length_append, List.length_singleton]; omega
    · have e : j = items1.length := by omega
      subst e
      rw [List.drop_length] at py
      exact .inl ⟨stop1 _ (Nat.le_refl _), items.length - (i + 1), by omega, Gy, cy, acc1, us1, rfl, hlt, sy, hDy, gDy, ry, by omega, py⟩
  · have e : i = items.length := by omega
    subst e
    refine .inl ⟨stop _ (Nat.le_refl _), ?_⟩
    rw [List.drop_length] at px
    exact q _ cx _ Gx Hx px (s1.trans w sx) ⟨D, us, acc, rfl, rfl, hDx, rx, gDx, Classical.byContradiction fun k => s1.still w.tn k hD, nD⟩
end
section
variable {X : Cx} {elt tg iter tg1 iter1 : Expr} {scope : Scope} {own : List (Str × Nat)} {pos : Pos}
theorem pfd_lc2 {vs vs1 : List Nat} {ti ti1 : TAD} {g g1 : TG} {gd gd1 : TGD} {js js1 : List Nat} {te : TD} (hc : X.calm = true) (hN : X.N.Nodup) (hvs : own.map (·.2) = vs) (hi : PID true X tg iter ti) (ok : BlkOk X.N X.env.scope scope own) (hv : ∀ i ∈ vs1, i ∈ own.map (·.2))
    (hg : ∀ (s : Shared) (H : Hp) (C : Addr) (cl : List (Str × Addr)) (fp : List Addr), PG (X.blk s H scope (compEnvC scope cl C X.env) fp) tg g) (hgd : GOk X.K g gd js) (hj : ∀ i ∈ js, i ∈ own.map (·.2))
    (hi1 : ∀ (s : Shared) (H : Hp) (C : Addr) (cl : List (Str × Addr)) (fp : List Addr), PID false (X.blk s H scope (compEnvC scope cl C X.env) fp) tg1 iter1 ti1)
    (hg1 : ∀ (s : Shared) (H : Hp) (C : Addr) (cl : List (Str × Addr)) (fp : List Addr), PG (X.blk s H scope (compEnvC scope cl C X.env) fp) tg1 g1) (hgd1 : GOk X.K g1 gd1 js1) (hj1 : ∀ i ∈ js1, i ∈ vs1)
    (he : ∀ (s : Shared) (H : Hp) (C : Addr) (cl : List (Str × Addr)) (fp : List Addr), PP (X.blk s H scope (compEnvC scope cl C X.env) fp) elt te) (hs : ∀ x, foldedSetIterable iter X.env x = pure x := by intro _; rfl) (hs1 : ∀ env x, foldedSetIterable iter1 env x = pure x := by intro _ _; rfl) :
    PF X (.ListComp elt [⟨tg, iter, [], 0⟩, ⟨tg1, iter1, [], 0⟩] scope pos) (dLc2 ti gd ti1 gd1 te vs vs1) := by
  subst hvs
  exact pe_imp (pe_lc2 hc hN hi ok hv hg (fun _ _ _ _ _ => ptsd_nil) hi1 hg1 (fun _ _ _ _ _ => ptsd_nil) he hs hs1) (ent_lc2 hgd hj hgd1 hj1)
end
end Pd
end
section
/-! MA0: fractions: tops and bottoms, sizes. -/
namespace Ma
/-- top and bottom of a quotient of whole numbers, the second above 0 -/
theorem div_pos (a : Int) (b : Int) (hb : 0 < b) : ((a : Rat) / b).num = a / ((Nat.gcd a.natAbs b.natAbs : Nat) : Int) ∧ ((((a : Rat) / b).den : Nat) : Int) = b / ((Nat.gcd a.natAbs b.natAbs : Nat) : Int) := by
  obtain ⟨n, rfl⟩ : ∃ n : Nat, b = n := ⟨b.toNat, by omega⟩
  have hn : n ≠ 0 := by omega
  rw [show ((n : Int) : Rat) = (n : Rat) from rfl, ← Rat.mkRat_eq_div, ← Rat.normalize_eq_mkRat hn, Rat.normalize_eq]
  simp
theorem gcd_pos (a b : Int) (hb : b ≠ 0) : 0 < Nat.gcd a.natAbs b.natAbs := Nat.gcd_pos_of_pos_right _ (by omega)
theorem fdiv_exact (g k : Int) (hg : g ≠ 0) : (g * k).fdiv g = k := Int.mul_fdiv_cancel_left k hg
/-- what the program's division gives -/
theorem fdiv_pos (a b : Int) (hb : 0 < b) : a.fdiv ((Nat.gcd a.natAbs b.natAbs : Nat) : Int) = ((a : Rat) / b).num ∧ b.fdiv ((Nat.gcd a.natAbs b.natAbs : Nat) : Int) = ((((a : Rat) / b).den : Nat) : Int) := by
  obtain ⟨h1, h2⟩ := div_pos a b hb
  rw [h1, h2, Int.fdiv_eq_ediv_of_nonneg _ (by omega), Int.fdiv_eq_ediv_of_nonneg _ (by omega)]
  exact ⟨rfl, rfl⟩
theorem fdiv_neg' (a g : Int) (h : g ∣ a) (hg : g ≠ 0) : a.fdiv (-g) = (-a).fdiv g := by
  obtain ⟨k, rfl⟩ := h
  have e1 : g * k = (-g) * (-k) := by grind
  have e2 : -(g * k) = g * (-k) := by grind
  rw [e2, fdiv_exact g (-k) hg]
  rw [e1, fdiv_exact (-g) (-k) (by omega)]
theorem fdiv_neg (a b : Int) (hb : b < 0) : a.fdiv (-((Nat.gcd a.natAbs b.natAbs : Nat) : Int)) = ((a : Rat) / b).num ∧ b.fdiv (-((Nat.gcd a.natAbs b.natAbs : Nat) : Int)) = ((((a : Rat) / b).den : Nat) : Int) := by
  have hg : ((Nat.gcd a.natAbs b.natAbs : Nat) : Int) ≠ 0 := by
    have := gcd_pos a b (by omega)
    omega
  have d1 : ((Nat.gcd a.natAbs b.natAbs : Nat) : Int) ∣ a := Int.ofNat_dvd_left.mpr (Nat.gcd_dvd_left _ _)
  have d2 : ((Nat.gcd a.natAbs b.natAbs : Nat) : Int) ∣ b := Int.ofNat_dvd_left.mpr (Nat.gcd_dvd_right _ _)
  rw [fdiv_neg' a _ d1 hg, fdiv_neg' b _ d2 hg]
  have e : Nat.gcd a.natAbs b.natAbs = Nat.gcd (-a).natAbs (-b).natAbs := by rw [Int.natAbs_neg, Int.natAbs_neg]
  have q : (a : Rat) / b = ((-a : Int) : Rat) / ((-b : Int) : Rat) := by
    have hb' : (b : Rat) ≠ 0 := by
      intro h
      have := Rat.intCast_inj.mp (show (b : Rat) = ((0 : Int) : Rat) from h)
      omega
    rw [Rat.intCast_neg, Rat.intCast_neg]
    grind
  rw [e, q]
  exact fdiv_pos (-a) (-b) (by omega)
theorem rat_eq (q : Rat) : (q.num : Rat) / ((q.den : Int) : Rat) = q := by
  rw [show ((q.den : Int) : Rat) = ((q.den : Nat) : Rat) from rfl, ← Rat.mkRat_eq_div]
  exact Rat.mkRat_self q
theorem den_ne (q : Rat) : ((q.den : Nat) : Int) ≠ 0 := by
  have := q.den_pos
  omega
theorem den_ne' (q : Rat) : (((q.den : Nat) : Int) : Rat) ≠ 0 := by
  intro h
  have := Rat.intCast_inj.mp (show (((q.den : Nat) : Int) : Rat) = ((0 : Int) : Rat) from h)
  exact den_ne q this
/-- the sums and products that the defs write -/
theorem add_form (p q : Rat) : (((p.num * q.den + q.num * p.den : Int)) : Rat) / ((p.den * q.den : Int) : Rat) = p + q := by
  have h1 := rat_eq p
  have h2 := rat_eq q
  have n1 := den_ne' p
  have n2 := den_ne' q
  rw [Rat.intCast_add, Rat.intCast_mul, Rat.intCast_mul, Rat.intCast_mul]
  grind
theorem sub_form (p q : Rat) : (((p.num * q.den - q.num * p.den : Int)) : Rat) / ((p.den * q.den : Int) : Rat) = p - q := by
  have h1 := rat_eq p
  have h2 := rat_eq q
  have n1 := den_ne' p
  have n2 := den_ne' q
  rw [Rat.intCast_sub, Rat.intCast_mul, Rat.intCast_mul, Rat.intCast_mul]
  grind
theorem mul_form (p q : Rat) : (((p.num * q.num : Int)) : Rat) / ((p.den * q.den : Int) : Rat) = p * q := by
  have h1 := rat_eq p
  have h2 := rat_eq q
  have n1 := den_ne' p
  have n2 := den_ne' q
  rw [Rat.intCast_mul, Rat.intCast_mul]
  grind
theorem num_ne' (q : Rat) (h : q ≠ 0) : ((q.num : Int) : Rat) ≠ 0 := by
  intro z
  have := Rat.intCast_inj.mp (show ((q.num : Int) : Rat) = ((0 : Int) : Rat) from z)
  exact h (Rat.num_eq_zero.mp this)
theorem div_form (p q : Rat) (h : q ≠ 0) : (((p.num * q.den : Int)) : Rat) / ((p.den * q.num : Int) : Rat) = p / q := by
  have h1 := rat_eq p
  have h2 := rat_eq q
  have n1 := den_ne' p
  have n2 := den_ne' q
  have n3 := num_ne' q h
  rw [Rat.intCast_mul, Rat.intCast_mul]
  grind
theorem int_form (a : Int) : (a : Rat).num = a ∧ (a : Rat).den = 1 := ⟨Rat.num_intCast a, Rat.den_intCast a⟩
theorem add_int (p q : Rat) (hp : p.den = 1) (hq : q.den = 1) : (p + q).num = p.num + q.num ∧ (p + q).den = 1 := by
  have e := add_form p q
  rw [hp, hq] at e
  have e2 : p + q = ((p.num + q.num : Int) : Rat) := by
    rw [← e]
    simp
    grind
  rw [e2]
  exact int_form _
theorem mul_int (p q : Rat) (hp : p.den = 1) (hq : q.den = 1) : (p * q).num = p.num * q.num ∧ (p * q).den = 1 := by
  have e := mul_form p q
  rw [hp, hq] at e
  have e2 : p * q = ((p.num * q.num : Int) : Rat) := by
    rw [← e]
    simp
    grind
  rw [e2]
  exact int_form _

/-! sizes -/
/-- top and bottom below 2 ^ 4400 -/
def Sm (q : Rat) : Prop := q.num.natAbs < 2 ^ 4400 ∧ q.den < 2 ^ 4400
theorem log_lt {n k : Nat} (h : n < 2 ^ k) (hk : 0 < k) : n.log2 < k := by
  by_cases h0 : n = 0
  · subst h0; simpa using hk
  · exact (Nat.log2_lt h0).mpr h
theorem gcd_log {a b : Int} (hb : b ≠ 0) (h : b.natAbs < 2 ^ 8801) : (Nat.gcd a.natAbs b.natAbs).log2 < 9000 := by
  have h1 : Nat.gcd a.natAbs b.natAbs ≤ b.natAbs := Nat.gcd_le_right _ (by omega)
  have h2 := log_lt (Nat.lt_of_le_of_lt h1 h) (by decide)
  omega
theorem mul_lt {a b : Int} {k l : Nat} (h1 : a.natAbs < 2 ^ k) (h2 : b.natAbs < 2 ^ l) : (a * b).natAbs < 2 ^ (k + l) := by
  rw [Int.natAbs_mul, Nat.pow_add]
  exact Nat.mul_lt_mul'' h1 h2
theorem Sm.den {q : Rat} (h : Sm q) : ((q.den : Nat) : Int).natAbs < 2 ^ 4400 := by simpa using h.2
theorem Sm.neg {q : Rat} (h : Sm q) : Sm (-q) := by
  unfold Sm at *
  rw [Rat.neg_num, Rat.neg_den, Int.natAbs_neg]
  exact h
theorem sm0 : Sm 0 := by unfold Sm; exact ⟨Nat.two_pow_pos 4400, Nat.one_lt_two_pow (by omega)⟩
end Ma
end
section
/-! MA1: rows of fractions. -/
namespace Ma
abbrev Row := List Rat
def addR (r s : Row) : Row := List.zipWith (· + ·) r s
def scR (r : Row) (k : Rat) : Row := r.map (· * k)
def Sms (r : Row) : Prop := ∀ x ∈ r, Sm x
def isZ (r : Row) : Bool := r.all fun x => decide (x = 0)
/-- the first place that is not 0 -/
def lead : Row → Nat
  | [] => 0
  | x :: r => if x = 0 then lead r + 1 else 0
def unitR (n p : Nat) : Row := (List.range n).map fun i => if i = p then 1 else 0
/-- a row less what it has of others at their leads -/
def lessen : List Row → Row → Row
  | [], r => r
  | f :: fs, r => lessen fs (if r.getD (lead f) 0 = 0 then r else addR r (scR f (-(r.getD (lead f) 0))))
theorem lead_lt : ∀ {r : Row}, isZ r = false → lead r < r.length
  | [], h => by simp [isZ] at h
  | x :: r, h => by
    unfold lead
    split
    · rename_i e
      have : isZ r = false := by
        simp [isZ, e] at h
        simpa [isZ] using h
      have := lead_lt this
      simp; omega
    · simp
theorem lead_get : ∀ {r : Row}, isZ r = false → r.getD (lead r) 0 ≠ 0
  | [], h => by simp [isZ] at h
  | x :: r, h => by
    unfold lead
    split
    · rename_i e
      have : isZ r = false := by
        simp [isZ, e] at h
        simpa [isZ] using h
      have := lead_get this
      simpa using this
    · rename_i e
      simpa using e
theorem lead_before : ∀ {r : Row} {i : Nat}, i < lead r → r.getD i 0 = 0
  | [], i, h => by simp
  | x :: r, i, h => by
    unfold lead at h
    split at h
    · rename_i e
      cases i with
      | zero => simpa using e
      | succ i =>
        have := lead_before (r := r) (i := i) (by omega)
        simpa using this
    · omega
theorem addR_len (r s : Row) (h : r.length = s.length) : (addR r s).length = r.length := by simp [addR, h]
theorem scR_len (r : Row) (k : Rat) : (scR r k).length = r.length := by simp [scR]
theorem lessen_len : ∀ (fs : List Row) (r : Row) (n : Nat), r.length = n → (∀ f ∈ fs, f.length = n) → (lessen fs r).length = n
  | [], r, n, h, _ => h
  | f :: fs, r, n, h, hf => by
    unfold lessen
    refine lessen_len fs _ n ?_ fun g hg => hf g (List.mem_cons_of_mem _ hg)
    split
    · exact h
    · rw [addR_len _ _ (by rw [scR_len, h, hf f List.mem_cons_self])]; exact h
/-- what lessened_by asks of sizes -/
def LOk : List Row → Row → Prop
  | [], _ => True
  | f :: fs, r => isZ f = false ∧ f.length = r.length ∧ Sms f ∧ Sms r ∧ Sms (scR f (-(r.getD (lead f) 0))) ∧ LOk fs (if r.getD (lead f) 0 = 0 then r else addR r (scR f (-(r.getD (lead f) 0))))
end Ma
end
section
/-! MA2: reduced rows: what they annihilate, their shape. -/
namespace Ma
def dotF : Row → (Nat → Rat) → Rat
  | [], _ => 0
  | x :: r, v => x * v 0 + dotF r (fun i => v (i + 1))
def Ann (fs : List Row) (v : Nat → Rat) : Prop := ∀ f ∈ fs, dotF f v = 0
theorem dotF_add : ∀ (r s : Row) (v : Nat → Rat), r.length = s.length → dotF (addR r s) v = dotF r v + dotF s v
  | [], [], v, _ => by simp only [addR, dotF, List.zipWith_nil_left]; grind
  | [], _ :: _, v, h => by simp at h
  | _ :: _, [], v, h => by simp at h
  | x :: r, y :: s, v, h => by
    have ih := dotF_add r s (fun i => v (i + 1)) (by simpa using h)
    simp only [addR] at ih
    simp only [addR, List.zipWith_cons_cons, dotF, ih]
    grind
theorem dotF_sc : ∀ (r : Row) (k : Rat) (v : Nat → Rat), dotF (scR r k) v = dotF r v * k
  | [], k, v => by simp [scR, dotF]
  | x :: r, k, v => by
    have ih := dotF_sc r k (fun i => v (i + 1))
    simp only [scR] at ih
    simp only [scR, List.map_cons, dotF, ih]
    grind
theorem dotF_isZ : ∀ (r : Row) (v : Nat → Rat), isZ r = true → dotF r v = 0
  | [], v, _ => rfl
  | x :: r, v, h => by
    simp only [isZ, List.all_cons, Bool.and_eq_true, decide_eq_true_eq] at h
    have ih := dotF_isZ r (fun i => v (i + 1)) (by simpa [isZ] using h.2)
    simp only [dotF, ih, h.1]
    grind
theorem addR_get {r s : Row} (h : r.length = s.length) (i : Nat) : (addR r s).getD i 0 = r.getD i 0 + s.getD i 0 := by
  by_cases hi : i < r.length
  · have hi2 : i < s.length := by omega
    have hi3 : i < (addR r s).length := by rw [addR_len r s h]; exact hi
    have e : (addR r s)[i] = r[i] + s[i] := List.getElem_zipWith (f := fun (a b : Rat) => a + b) (i := i) (h := hi3)
    simp only [List.getD, List.getElem?_eq_getElem hi, List.getElem?_eq_getElem hi2, List.getElem?_eq_getElem hi3, e, Option.getD_some]
  · have hi2 : ¬ i < s.length := by omega
    have hi3 : ¬ i < (addR r s).length := by rw [addR_len r s h]; exact hi
    simp only [List.getD, List.getElem?_eq_none (Nat.le_of_not_lt hi), List.getElem?_eq_none (Nat.le_of_not_lt hi2), List.getElem?_eq_none (Nat.le_of_not_lt hi3), Option.getD_none]
    grind
theorem scR_get (r : Row) (k : Rat) (i : Nat) : (scR r k).getD i 0 = r.getD i 0 * k := by
  by_cases hi : i < r.length
  · simp [List.getD, scR, List.getElem?_eq_getElem hi]
  · simp [List.getD, scR, List.getElem?_eq_none (Nat.le_of_not_lt hi)]
theorem lessen_ann : ∀ (fs : List Row) (r : Row) (v : Nat → Rat), (∀ f ∈ fs, f.length = r.length) → Ann fs v → dotF (lessen fs r) v = dotF r v
  | [], r, v, _, _ => rfl
  | f :: fs, r, v, hl, h => by
    unfold lessen
    have hf := hl f List.mem_cons_self
    have len : (if r.getD (lead f) 0 = 0 then r else addR r (scR f (-(r.getD (lead f) 0)))).length = r.length := by
      split
      · rfl
      · rw [addR_len _ _ (by rw [scR_len, hf])]
    rw [lessen_ann fs _ v (fun g hg => by rw [len]; exact hl g (List.mem_cons_of_mem _ hg)) (fun g hg => h g (List.mem_cons_of_mem _ hg))]
    split
    · rfl
    · rw [dotF_add _ _ _ (by rw [scR_len, hf]), dotF_sc, h f List.mem_cons_self]
      grind
/-- the place of a lead -/
theorem lead_eq : ∀ {r : Row} {k : Nat}, (∀ i, i < k → r.getD i 0 = 0) → r.getD k 0 ≠ 0 → lead r = k ∧ isZ r = false
  | [], k, _, h => by simp at h
  | x :: r, k, h, hk => by
    cases k with
    | zero =>
      have hx : x ≠ 0 := by simpa using hk
      simp [lead, isZ, hx]
    | succ k =>
      have hx : x = 0 := by simpa using h 0 (by omega)
      obtain ⟨a, b⟩ := lead_eq (r := r) (k := k) (fun i hi => by simpa using h (i + 1) (by omega)) (by simpa using hk)
      constructor
      · simp [lead, hx, a]
      · simp [isZ, hx]
        simpa [isZ] using b
theorem isZ_get {r : Row} (h : isZ r = true) (i : Nat) : r.getD i 0 = 0 := by
  by_cases hi : i < r.length
  · simp only [isZ, List.all_eq_true, decide_eq_true_eq] at h
    rw [List.getD, List.getElem?_eq_getElem hi]
    exact h _ (List.getElem_mem hi)
  · simp [List.getD, List.getElem?_eq_none (Nat.le_of_not_lt hi)]
theorem isZ_of {r : Row} (h : ∀ i, i < r.length → r.getD i 0 = 0) : isZ r = true := by
  simp only [isZ, List.all_eq_true, decide_eq_true_eq]
  intro x hx
  obtain ⟨i, hi, rfl⟩ := List.mem_iff_getElem.mp hx
  have := h i hi
  simpa [List.getD, List.getElem?_eq_getElem hi] using this
/-- reduced rows -/
structure Rd (n : Nat) (fs : List Row) : Prop where
  len : ∀ f ∈ fs, f.length = n
  nz : ∀ f ∈ fs, isZ f = false
  one : ∀ f ∈ fs, f.getD (lead f) 0 = 1
  off : fs.Pairwise fun f g => g.getD (lead f) 0 = 0 ∧ f.getD (lead g) 0 = 0
theorem lessen_keep : ∀ (fs : List Row) (r : Row) (i : Nat), (∀ f ∈ fs, f.length = r.length) → (∀ f ∈ fs, f.getD i 0 = 0) → (lessen fs r).getD i 0 = r.getD i 0
  | [], r, i, _, _ => rfl
  | f :: fs, r, i, hl, h => by
    unfold lessen
    have hf := hl f List.mem_cons_self
    have len : (if r.getD (lead f) 0 = 0 then r else addR r (scR f (-(r.getD (lead f) 0)))).length = r.length := by
      split
      · rfl
      · rw [addR_len _ _ (by rw [scR_len, hf])]
    rw [lessen_keep fs _ i (fun g hg => by rw [len]; exact hl g (List.mem_cons_of_mem _ hg)) (fun g hg => h g (List.mem_cons_of_mem _ hg))]
    split
    · rfl
    · rw [addR_get (by rw [scR_len, hf]), scR_get, h f List.mem_cons_self]
      grind
theorem lessen_zero (n : Nat) : ∀ (fs : List Row) (r : Row), r.length = n → Rd n fs → ∀ f ∈ fs, (lessen fs r).getD (lead f) 0 = 0
  | [], r, _, _, f, hf => by simp at hf
  | g :: fs, r, hr, R, f, hf => by
    have hg := R.len g List.mem_cons_self
    have off := List.pairwise_cons.mp R.off
    have R' : Rd n fs := ⟨fun f hf => R.len f (List.mem_cons_of_mem _ hf), fun f hf => R.nz f (List.mem_cons_of_mem _ hf), fun f hf => R.one f (List.mem_cons_of_mem _ hf), off.2⟩
    have len : (if r.getD (lead g) 0 = 0 then r else addR r (scR g (-(r.getD (lead g) 0)))).length = n := by
      split
      · exact hr
      · rw [addR_len _ _ (by rw [scR_len, hg, hr])]; exact hr
    unfold lessen
    rcases List.mem_cons.mp hf with e | hf
    · subst e
      rw [lessen_keep fs _ _ (fun k hk => by rw [len]; exact R'.len k hk) (fun k hk => (off.1 k hk).1)]
      split
      · assumption
      · rw [addR_get (by rw [scR_len, hg, hr]), scR_get, R.one f List.mem_cons_self]
        grind
    · exact lessen_zero n fs _ len R' f hf
def redStep (fs : List Row) (row : Row) : List Row :=
  let o := lessen fs row
  if isZ o = true then fs else
    let o' := scR o (1 / o.getD (lead o) 0)
    fs.map (fun f => lessen [o'] f) ++ [o']
def redF (rows : List Row) : List Row := rows.foldl redStep []
theorem sc_lead {o : Row} (h : isZ o = false) {k : Rat} (hk : k ≠ 0) : lead (scR o k) = lead o ∧ isZ (scR o k) = false := by
  refine lead_eq (fun i hi => ?_) ?_
  · rw [scR_get, lead_before hi]; grind
  · rw [scR_get]
    have := lead_get h
    intro z
    have : o.getD (lead o) 0 = 0 ∨ k = 0 := by
      rcases Rat.mul_eq_zero.mp z with z | z
      · exact .inl z
      · exact .inr z
    rcases this with z | z
    · exact lead_get h z
    · exact hk z
/-- one new row -/
structure New (n : Nat) (fs : List Row) (o' : Row) : Prop where
  len : o'.length = n
  nz : isZ o' = false
  one : o'.getD (lead o') 0 = 1
  off : ∀ f ∈ fs, o'.getD (lead f) 0 = 0
theorem less1 (o f : Row) : lessen [o] f = if f.getD (lead o) 0 = 0 then f else addR f (scR o (-(f.getD (lead o) 0))) := rfl
theorem less1_get {n : Nat} {o f : Row} (ho : o.length = n) (hf : f.length = n) (i : Nat) : (lessen [o] f).getD i 0 = f.getD i 0 - f.getD (lead o) 0 * o.getD i 0 := by
  rw [less1]
  split
  · rename_i e
    rw [e]; grind
  · rw [addR_get (by rw [scR_len, ho, hf]), scR_get]; grind
theorem less1_len {n : Nat} {o f : Row} (ho : o.length = n) (hf : f.length = n) : (lessen [o] f).length = n := lessen_len [o] f n hf (by simpa using ho)
theorem new_of {n : Nat} {fs : List Row} {row : Row} (R : Rd n fs) (hr : row.length = n) (h : isZ (lessen fs row) = false) : New n fs (scR (lessen fs row) (1 / (lessen fs row).getD (lead (lessen fs row)) 0)) := by
  have hg := lead_get h
  have hk : (1 : Rat) / (lessen fs row).getD (lead (lessen fs row)) 0 ≠ 0 := by grind
  obtain ⟨e1, e2⟩ := sc_lead h hk
  refine ⟨?_, e2, ?_, fun f hf => ?_⟩
  · rw [scR_len]; exact lessen_len fs row n hr R.len
  · rw [e1, scR_get]; grind
  · rw [scR_get, lessen_zero n fs row hr R f hf]; grind
theorem lead_less1 {n : Nat} {fs : List Row} {o f : Row} (R : Rd n fs) (N : New n fs o) (hf : f ∈ fs) : lead (lessen [o] f) = lead f ∧ isZ (lessen [o] f) = false ∧ (lessen [o] f).getD (lead f) 0 = 1 ∧ (lessen [o] f).getD (lead o) 0 = 0 := by
  have g := less1_get N.len (R.len f hf)
  have h1 : (lessen [o] f).getD (lead f) 0 = 1 := by rw [g, N.off f hf, R.one f hf]; grind
  obtain ⟨a, b⟩ := lead_eq (r := lessen [o] f) (k := lead f) (fun i hi => by
    rw [g, lead_before hi]
    by_cases hl : lead o < lead f
    · rw [lead_before hl]; grind
    · rw [lead_before (r := o) (i := i) (by omega)]; grind) (by rw [h1]; decide)
  refine ⟨a, b, h1, ?_⟩
  rw [g, N.one]; grind
theorem rd_step {n : Nat} {fs : List Row} {row : Row} (R : Rd n fs) (hr : row.length = n) : Rd n (redStep fs row) := by
  unfold redStep
  by_cases h : isZ (lessen fs row) = true
  · rw [if_pos h]; exact R
  · have h' : isZ (lessen fs row) = false := by simpa using h
    rw [if_neg h]
    have N := new_of R hr h'
    generalize scR (lessen fs row) (1 / (lessen fs row).getD (lead (lessen fs row)) 0) = o at N
    refine ⟨fun f hf => ?_, fun f hf => ?_, fun f hf => ?_, ?_⟩
    · rcases List.mem_append.mp hf with hf | hf
      · obtain ⟨g, hg, rfl⟩ := List.mem_map.mp hf
        exact less1_len N.len (R.len g hg)
      · rw [List.mem_singleton.mp hf]; exact N.len
    · rcases List.mem_append.mp hf with hf | hf
      · obtain ⟨g, hg, rfl⟩ := List.mem_map.mp hf
        exact (lead_less1 R N hg).2.1
      · rw [List.mem_singleton.mp hf]; exact N.nz
    · rcases List.mem_append.mp hf with hf | hf
      · obtain ⟨g, hg, rfl⟩ := List.mem_map.mp hf
        rw [(lead_less1 R N hg).1]
        exact (lead_less1 R N hg).2.2.1
      · rw [List.mem_singleton.mp hf]; exact N.one
    · rw [List.pairwise_append]
      refine ⟨?_, List.pairwise_singleton _ _, fun f hf g hg => ?_⟩
      · rw [List.pairwise_map]
        refine List.Pairwise.imp_of_mem ?_ R.off
        intro f g hf hg ⟨h1, h2⟩
        rw [(lead_less1 R N hf).1, (lead_less1 R N hg).1, less1_get N.len (R.len g hg), less1_get N.len (R.len f hf), h1, h2, N.off f hf, N.off g hg]
        constructor <;> grind
      · obtain ⟨f', hf', rfl⟩ := List.mem_map.mp hf
        rw [List.mem_singleton.mp hg, (lead_less1 R N hf').1]
        exact ⟨N.off f' hf', (lead_less1 R N hf').2.2.2⟩
theorem ann_step {n : Nat} {fs : List Row} {row : Row} (R : Rd n fs) (hr : row.length = n) (v : Nat → Rat) : Ann (redStep fs row) v ↔ Ann fs v ∧ dotF row v = 0 := by
  unfold redStep
  by_cases h : isZ (lessen fs row) = true
  · rw [if_pos h]
    constructor
    · intro a
      refine ⟨a, ?_⟩
      rw [← lessen_ann fs row v (fun f hf => by rw [hr]; exact R.len f hf) a]
      exact dotF_isZ _ v h
    · exact fun a => a.1
  · have h' : isZ (lessen fs row) = false := by simpa using h
    rw [if_neg h]
    have N := new_of R hr h'
    have hg := lead_get h'
    have ho : dotF (scR (lessen fs row) (1 / (lessen fs row).getD (lead (lessen fs row)) 0)) v = 0 ↔ dotF (lessen fs row) v = 0 := by
      rw [dotF_sc]
      constructor
      · intro z
        rcases Rat.mul_eq_zero.mp z with z | z
        · exact z
        · exfalso; grind
      · intro z; rw [z]; grind
    generalize scR (lessen fs row) (1 / (lessen fs row).getD (lead (lessen fs row)) 0) = o at N ho
    have hless : ∀ f ∈ fs, dotF o v = 0 → dotF (lessen [o] f) v = dotF f v := fun f hf z =>
      lessen_ann [o] f v (by simpa using (N.len.trans (R.len f hf).symm)) (by intro g hg; rw [List.mem_singleton.mp hg]; exact z)
    constructor
    · intro a
      have zo := a o (List.mem_append_right _ (List.mem_singleton.mpr rfl))
      have af : Ann fs v := fun f hf => by
        rw [← hless f hf zo]
        exact a _ (List.mem_append_left _ (List.mem_map.mpr ⟨f, hf, rfl⟩))
      refine ⟨af, ?_⟩
      rw [← lessen_ann fs row v (fun f hf => by rw [hr]; exact R.len f hf) af]
      exact ho.mp zo
    · intro ⟨a, z⟩
      have zo := ho.mpr (by rw [lessen_ann fs row v (fun f hf => by rw [hr]; exact R.len f hf) a]; exact z)
      intro f hf
      rcases List.mem_append.mp hf with hf | hf
      · obtain ⟨g, hg, rfl⟩ := List.mem_map.mp hf
        rw [hless g hg zo]; exact a g hg
      · rw [List.mem_singleton.mp hf]; exact zo
theorem rd_fold {n : Nat} : ∀ (rows fs : List Row), Rd n fs → (∀ r ∈ rows, r.length = n) → Rd n (rows.foldl redStep fs) ∧ ∀ v, Ann (rows.foldl redStep fs) v ↔ Ann fs v ∧ Ann rows v
  | [], fs, R, _ => ⟨R, fun v => by simp [Ann]⟩
  | r :: rows, fs, R, hl => by
    have hr := hl r List.mem_cons_self
    obtain ⟨a, b⟩ := rd_fold rows (redStep fs r) (rd_step R hr) fun q hq => hl q (List.mem_cons_of_mem _ hq)
    refine ⟨a, fun v => ?_⟩
    show Ann (rows.foldl redStep (redStep fs r)) v ↔ _
    rw [b v, ann_step R hr v]
    simp [Ann, and_assoc]
theorem rd_nil (n : Nat) : Rd n [] := ⟨by simp, by simp, by simp, List.Pairwise.nil⟩
theorem redF_rd {n : Nat} {rows : List Row} (h : ∀ r ∈ rows, r.length = n) : Rd n (redF rows) := (rd_fold rows [] (rd_nil n) h).1
theorem redF_ann {n : Nat} {rows : List Row} (h : ∀ r ∈ rows, r.length = n) (v : Nat → Rat) : Ann (redF rows) v ↔ Ann rows v := by
  rw [redF, (rd_fold rows [] (rd_nil n) h).2 v]
  simp [Ann]
theorem Rd.perm {n : Nat} {fs gs : List Row} (R : Rd n fs) (p : gs.Perm fs) : Rd n gs :=
  ⟨fun f hf => R.len f (p.mem_iff.mp hf), fun f hf => R.nz f (p.mem_iff.mp hf), fun f hf => R.one f (p.mem_iff.mp hf), (p.pairwise_iff fun h => ⟨h.2, h.1⟩).mpr R.off⟩
theorem Ann.perm {fs gs : List Row} (p : gs.Perm fs) (v : Nat → Rat) : Ann gs v ↔ Ann fs v := ⟨fun h f hf => h f (p.mem_iff.mpr hf), fun h f hf => h f (p.mem_iff.mp hf)⟩
end Ma
end
section
/-! MA3: the rows that show 0 of reduced rows; weights. -/
namespace Ma
def sumF : Nat → (Nat → Rat) → Rat
  | 0, _ => 0
  | n + 1, f => sumF n f + f n
theorem sumF_ext : ∀ {n : Nat} {f g : Nat → Rat}, (∀ i, i < n → f i = g i) → sumF n f = sumF n g
  | 0, _, _, _ => rfl
  | n + 1, f, g, h => by
    simp only [sumF]
    rw [sumF_ext fun i hi => h i (by omega), h n (by omega)]
theorem sumF_zero : ∀ {n : Nat} {f : Nat → Rat}, (∀ i, i < n → f i = 0) → sumF n f = 0
  | 0, _, _ => rfl
  | n + 1, f, h => by
    simp only [sumF]
    rw [sumF_zero fun i hi => h i (by omega), h n (by omega)]
    grind
theorem sumF_add (f g : Nat → Rat) : ∀ n : Nat, sumF n (fun i => f i + g i) = sumF n f + sumF n g
  | 0 => by simp only [sumF]; grind
  | n + 1 => by
    simp only [sumF]
    rw [sumF_add f g n]
    grind
theorem sumF_mul (f : Nat → Rat) (k : Rat) : ∀ n : Nat, sumF n (fun i => k * f i) = k * sumF n f
  | 0 => by simp only [sumF]; grind
  | n + 1 => by
    simp only [sumF]
    rw [sumF_mul f k n]
    grind
theorem sumF_one {f : Nat → Rat} {a : Nat} : ∀ {n : Nat}, a < n → (∀ i, i < n → i ≠ a → f i = 0) → sumF n f = f a
  | 0, h, _ => by omega
  | n + 1, h, k => by
    simp only [sumF]
    by_cases e : a = n
    · subst e
      rw [sumF_zero fun i hi => k i (by omega) (by omega)]
      grind
    · rw [sumF_one (show a < n by omega) fun i hi he => k i (by omega) he, k n (by omega) (by omega)]
      grind
theorem sumF_two {f : Nat → Rat} {a b : Nat} {n : Nat} (ha : a < n) (hb : b < n) (ne : a ≠ b) (h : ∀ i, i < n → i ≠ a → i ≠ b → f i = 0) : sumF n f = f a + f b := by
  have e : sumF n f = sumF n (fun i => (if i = a then f i else 0) + (if i = a then 0 else f i)) := sumF_ext fun i _ => by
    by_cases h : i = a
    · simp [h]; grind
    · simp [h]; grind
  rw [e, sumF_add, sumF_one (a := a) ha (fun i _ hi => by simp [hi]), sumF_one (a := b) hb (fun i hi hib => by
    by_cases h1 : i = a
    · simp [h1]
    · simp [h1]; exact h i hi h1 hib)]
  simp [Ne.symm ne]
theorem dotF_sum : ∀ (r : Row) (v : Nat → Rat), dotF r v = sumF r.length (fun i => r.getD i 0 * v i)
  | [], v => rfl
  | x :: r, v => by
    have shift : ∀ (n : Nat) (f : Nat → Rat), sumF (n + 1) f = f 0 + sumF n (fun i => f (i + 1)) := by
      intro n
      induction n with
      | zero => intro f; simp only [sumF]; grind
      | succ n ih =>
        intro f
        rw [sumF, ih f]
        simp only [sumF]
        grind
    rw [List.length_cons, shift]
    simp only [dotF, dotF_sum r]
    simp
/-- the row of a free place -/
def nullRow (lines : List Row) (n p : Nat) : Row := lines.foldl (fun r f => r.set (lead f) (-(f.getD p 0))) (unitR n p)
theorem unit_len (n p : Nat) : (unitR n p).length = n := by simp [unitR]
theorem unit_get (n p i : Nat) (hi : i < n) : (unitR n p).getD i 0 = if i = p then 1 else 0 := by
  simp [unitR, List.getD, hi]
theorem null_len (lines : List Row) (n p : Nat) : (nullRow lines n p).length = n := by
  have key : ∀ (ls : List Row) (r : Row), (ls.foldl (fun r f => r.set (lead f) (-(f.getD p 0))) r).length = r.length := by
    intro ls
    induction ls with
    | nil => intro r; rfl
    | cons f ls ih => intro r; rw [List.foldl_cons, ih, List.length_set]
  rw [nullRow, key, unit_len]
theorem set_getD {r : Row} {i j : Nat} {x : Rat} (hi : i < r.length) : (r.set i x).getD j 0 = if j = i then x else r.getD j 0 := by
  by_cases h : j = i
  · subst h; simp [List.getD, hi]
  · simp [List.getD, h, List.getElem?_set_ne (Ne.symm h)]
theorem null_get {n p : Nat} : ∀ (ls : List Row) (r : Row), r.length = n → (∀ f ∈ ls, lead f < n) → (∀ i, (∀ f ∈ ls, lead f ≠ i) → (ls.foldl (fun r f => r.set (lead f) (-(f.getD p 0))) r).getD i 0 = r.getD i 0) ∧
    (ls.Pairwise (fun f g => lead f ≠ lead g) → ∀ f ∈ ls, (ls.foldl (fun r f => r.set (lead f) (-(f.getD p 0))) r).getD (lead f) 0 = -(f.getD p 0))
  | [], r, _, _ => ⟨fun i _ => rfl, fun _ f hf => by simp at hf⟩
  | g :: ls, r, hr, hl => by
    have hg := hl g List.mem_cons_self
    obtain ⟨a, b⟩ := null_get ls (r.set (lead g) (-(g.getD p 0))) (by rw [List.length_set]; exact hr) fun f hf => hl f (List.mem_cons_of_mem _ hf)
    refine ⟨fun i h => ?_, fun pw f hf => ?_⟩
    · rw [List.foldl_cons, a i fun f hf => h f (List.mem_cons_of_mem _ hf), set_getD (by omega), if_neg (Ne.symm (h g List.mem_cons_self))]
    · have pw' := List.pairwise_cons.mp pw
      rcases List.mem_cons.mp hf with e | hf
      · subst e
        rw [List.foldl_cons, a (lead f) fun k hk => Ne.symm (pw'.1 k hk), set_getD (by omega), if_pos rfl]
      · rw [List.foldl_cons]; exact b pw'.2 f hf
theorem Rd.lead_lt {n : Nat} {fs : List Row} (R : Rd n fs) {f : Row} (hf : f ∈ fs) : lead f < n := by
  have := Ma.lead_lt (R.nz f hf)
  rw [R.len f hf] at this
  exact this
theorem Rd.leads {n : Nat} {fs : List Row} (R : Rd n fs) : fs.Pairwise (fun f g => lead f ≠ lead g) := by
  refine List.Pairwise.imp_of_mem ?_ R.off
  intro f g hf hg ⟨h1, _⟩ e
  have := R.one g hg
  rw [← e, h1] at this
  exact absurd this (by decide)
/-- at other rows' leads a row is 0 -/
theorem Rd.other {n : Nat} : ∀ {fs : List Row}, Rd n fs → ∀ {f g : Row}, f ∈ fs → g ∈ fs → lead f ≠ lead g → f.getD (lead g) 0 = 0
  | [], _, f, _, hf, _, _ => by simp at hf
  | h :: fs, R, f, g, hf, hg, ne => by
    have off := List.pairwise_cons.mp R.off
    have R' : Rd n fs := ⟨fun f hf => R.len f (List.mem_cons_of_mem _ hf), fun f hf => R.nz f (List.mem_cons_of_mem _ hf), fun f hf => R.one f (List.mem_cons_of_mem _ hf), off.2⟩
    rcases List.mem_cons.mp hf with e | hf2
    · subst e
      rcases List.mem_cons.mp hg with e | hg2
      · subst e; exact absurd rfl ne
      · exact (off.1 g hg2).2
    · rcases List.mem_cons.mp hg with e | hg2
      · subst e; exact (off.1 f hf2).1
      · exact R'.other hf2 hg2 ne
section
variable {n : Nat} {lines : List Row}
theorem nul_lead (R : Rd n lines) {p : Nat} {f : Row} (hf : f ∈ lines) : (nullRow lines n p).getD (lead f) 0 = -(f.getD p 0) :=
  (null_get lines (unitR n p) (unit_len n p) fun f hf => R.lead_lt hf).2 R.leads f hf
theorem nul_free (R : Rd n lines) {p i : Nat} (hi : i < n) (h : ∀ f ∈ lines, lead f ≠ i) : (nullRow lines n p).getD i 0 = if i = p then 1 else 0 := by
  rw [nullRow, (null_get lines (unitR n p) (unit_len n p) fun f hf => R.lead_lt hf).1 i h, unit_get n p i hi]
theorem nul_ann (R : Rd n lines) {p : Nat} (hp : p < n) (h : ∀ f ∈ lines, lead f ≠ p) : Ann lines (fun i => (nullRow lines n p).getD i 0) := by
  intro f hf
  have hl := R.lead_lt hf
  rw [dotF_sum, R.len f hf, sumF_two hl hp (h f hf) fun i hi h1 h2 => ?_]
  · rw [R.one f hf, nul_lead R hf, nul_free R hp h, if_pos rfl]
    grind
  · by_cases hq : ∃ g ∈ lines, lead g = i
    · obtain ⟨g, hg, e⟩ := hq
      subst e
      rw [R.other hf hg (Ne.symm h1)]
      grind
    · rw [nul_free R hi (fun g hg e => hq ⟨g, hg, e⟩), if_neg h2]
      grind
theorem ann_sub {w v : Nat → Rat} {k : Rat} (a : Ann lines w) (b : Ann lines v) : Ann lines (fun i => w i - k * v i) := by
  intro f hf
  have h1 := a f hf
  have h2 := b f hf
  rw [dotF_sum] at h1 h2 ⊢
  have e : sumF f.length (fun i => f.getD i 0 * (w i - k * v i)) = sumF f.length (fun i => f.getD i 0 * w i + (-k) * (f.getD i 0 * v i)) := sumF_ext fun i _ => by grind
  rw [e, sumF_add, sumF_mul, h1, h2]
  grind
theorem null_main (R : Rd n lines) (u : Nat → Rat) : (∀ p, p < n → (∀ f ∈ lines, lead f ≠ p) → dotF (nullRow lines n p) u = 0) ↔ ∀ w, Ann lines w → sumF n (fun i => w i * u i) = 0 := by
  constructor
  · intro h w a
    have key : ∀ m, m ≤ n → ∃ w', Ann lines w' ∧ sumF n (fun i => w' i * u i) = sumF n (fun i => w i * u i) ∧ ∀ p, p < m → (∀ f ∈ lines, lead f ≠ p) → w' p = 0 := by
      intro m
      induction m with
      | zero => intro _; exact ⟨w, a, rfl, fun p hp => by omega⟩
      | succ m ih =>
        intro hm
        obtain ⟨w', a', s', z'⟩ := ih (by omega)
        by_cases hf : ∀ f ∈ lines, lead f ≠ m
        · refine ⟨fun i => w' i - w' m * (nullRow lines n m).getD i 0, ann_sub a' (nul_ann R (by omega) hf), ?_, fun p hp hpf => ?_⟩
          · have hd := h m (by omega) hf
            rw [dotF_sum, null_len] at hd
            rw [← s']
            have e : sumF n (fun i => (w' i - w' m * (nullRow lines n m).getD i 0) * u i) = sumF n (fun i => w' i * u i + (-(w' m)) * ((nullRow lines n m).getD i 0 * u i)) := sumF_ext fun i _ => by grind
            rw [e, sumF_add, sumF_mul, hd]
            grind
          · show w' p - w' m * (nullRow lines n m).getD p 0 = 0
            rw [nul_free R (by omega) hpf]
            by_cases e : p = m
            · subst e; rw [if_pos rfl]; grind
            · rw [if_neg e, z' p (by omega) hpf]; grind
        · refine ⟨w', a', s', fun p hp hpf => ?_⟩
          by_cases e : p = m
          · subst e; exact absurd hpf hf
          · exact z' p (by omega) hpf
    obtain ⟨w', a', s', z'⟩ := key n (Nat.le_refl _)
    rw [← s']
    refine sumF_zero fun i hi => ?_
    have : w' i = 0 := by
      by_cases hq : ∃ g ∈ lines, lead g = i
      · obtain ⟨g, hg, e⟩ := hq
        have h1 := a' g hg
        rw [dotF_sum, R.len g hg, sumF_one (R.lead_lt hg) fun j hj hne => ?_, R.one g hg] at h1
        · rw [← e]; grind
        · by_cases hq2 : ∃ k ∈ lines, lead k = j
          · obtain ⟨k, hk, e2⟩ := hq2
            subst e2
            rw [R.other hg hk (Ne.symm hne)]; grind
          · rw [z' j hj fun k hk e2 => hq2 ⟨k, hk, e2⟩]; grind
      · exact z' i hi fun g hg e => hq ⟨g, hg, e⟩
    rw [this]; grind
  · intro h p hp hf
    have := h _ (nul_ann R hp hf)
    rw [dotF_sum, null_len]
    exact this
/-- the rows of all free places -/
def zerosF (lines : List Row) (n : Nat) : List Row := ((List.range n).filter fun p => !(lines.map lead).contains p).map (nullRow lines n)
theorem zeros_len (r : Row) (h : r ∈ zerosF lines n) : r.length = n := by
  obtain ⟨p, _, rfl⟩ := List.mem_map.mp h
  exact null_len lines n p
theorem zeros_ann (u : Nat → Rat) : Ann (zerosF lines n) u ↔ ∀ p, p < n → (∀ f ∈ lines, lead f ≠ p) → dotF (nullRow lines n p) u = 0 := by
  constructor
  · intro h p hp hf
    refine h _ (List.mem_map.mpr ⟨p, List.mem_filter.mpr ⟨List.mem_range.mpr hp, ?_⟩, rfl⟩)
    simp only [Bool.not_eq_true', List.contains_eq_mem, decide_eq_false_iff_not, List.mem_map, not_exists, not_and]
    exact hf
  · intro h f hf
    obtain ⟨p, hp, rfl⟩ := List.mem_map.mp hf
    obtain ⟨h1, h2⟩ := List.mem_filter.mp hp
    refine h p (List.mem_range.mp h1) ?_
    simpa using h2
end
/-- what the program asks of a record: rows the places of the columns, u a place of the nexts -/
theorem prog_main {n : Nat} {rows lines outs : List Row} (h : ∀ r ∈ rows, r.length = n) (pl : lines.Perm (redF rows)) (po : outs.Perm (redF (zerosF lines n))) (u : Nat → Rat) :
    Ann outs u ↔ ∀ w, Ann rows w → sumF n (fun i => w i * u i) = 0 := by
  have R := (redF_rd h).perm pl
  rw [Ann.perm po, redF_ann (fun r hr => zeros_len r hr), zeros_ann, null_main R]
  constructor
  · intro k w a
    exact k w ((Ann.perm pl w).mpr ((redF_ann h w).mpr a))
  · intro k w a
    exact k w ((redF_ann h w).mp ((Ann.perm pl w).mp a))
/-- weights on rows -/
def weighF : Row → List Row → Row → Row
  | w :: ws, r :: rs, acc => weighF ws rs (addR acc (scR r w))
  | _, _, acc => acc
theorem weigh_get (n : Nat) : ∀ (ws : Row) (rs : List Row) (acc : Row) (j : Nat), acc.length = n → (∀ r ∈ rs, r.length = n) → ws.length = rs.length →
    (weighF ws rs acc).length = n ∧ (weighF ws rs acc).getD j 0 = acc.getD j 0 + dotF ws (fun i => (rs.getD i []).getD j 0)
  | [], [], acc, j, ha, _, _ => ⟨ha, by simp only [weighF, dotF]; grind⟩
  | [], _ :: _, _, _, _, _, h => by simp at h
  | _ :: _, [], _, _, _, _, h => by simp at h
  | w :: ws, r :: rs, acc, j, ha, hr, hl => by
    have h1 := hr r List.mem_cons_self
    have l2 : (addR acc (scR r w)).length = n := by rw [addR_len _ _ (by rw [scR_len, ha, h1])]; exact ha
    obtain ⟨a, b⟩ := weigh_get n ws rs (addR acc (scR r w)) j l2 (fun q hq => hr q (List.mem_cons_of_mem _ hq)) (by simpa using hl)
    refine ⟨a, ?_⟩
    simp only [weighF, dotF]
    rw [b, addR_get (by rw [scR_len, ha, h1]), scR_get]
    simp
    grind
end Ma
end
section
/-! MA4: sizes in reduced rows, by common bottoms. -/
namespace Ma
/-- all of r are wholes over D, of tops at most M -/
def Bnd (D M : Nat) (r : Row) : Prop := ∀ i, ∃ z : Int, r.getD i 0 * (D : Rat) = z ∧ z.natAbs ≤ M
theorem natR (n : Nat) : ((n : Nat) : Rat) = ((n : Int) : Rat) := rfl
theorem sm_of {x : Rat} {D : Nat} {z : Int} (h : x * (D : Rat) = z) (h0 : 0 < D) (hD : D < 2 ^ 4400) (hz : z.natAbs < 2 ^ 4400) : Sm x := by
  have hD' : ((D : Int) : Rat) ≠ 0 := by
    intro q
    have := Rat.intCast_inj.mp (show ((D : Int) : Rat) = ((0 : Int) : Rat) from q)
    omega
  have e : x = (z : Rat) / ((D : Int) : Rat) := by
    rw [← h, natR]
    grind
  obtain ⟨h1, h2⟩ := div_pos z D (by omega)
  rw [← e] at h1 h2
  constructor
  · rw [h1]
    refine Nat.lt_of_le_of_lt ?_ hz
    rw [Int.natAbs_ediv_of_dvd (Int.ofNat_dvd_left.mpr (Nat.gcd_dvd_left _ _))]
    exact Nat.div_le_self _ _
  · have : ((x.den : Nat) : Int) ≤ D := by
      rw [h2]
      exact Int.ediv_le_self _ (by omega)
    omega
theorem sms_of {r : Row} {D M : Nat} (h : Bnd D M r) (h0 : 0 < D) (hD : D < 2 ^ 4400) (hz : M < 2 ^ 4400) : Sms r := by
  intro x hx
  obtain ⟨i, hi, rfl⟩ := List.mem_iff_getElem.mp hx
  obtain ⟨z, e, b⟩ := h i
  rw [List.getD, List.getElem?_eq_getElem hi, Option.getD_some] at e
  exact sm_of e h0 hD (by omega)
theorem Bnd.mono {D M M' : Nat} {r : Row} (h : Bnd D M r) (hm : M ≤ M') : Bnd D M' r := fun i => let ⟨z, e, b⟩ := h i; ⟨z, e, by omega⟩
theorem Bnd.scale {D M k : Nat} {r : Row} (h : Bnd D M r) : Bnd (D * k) (M * k) r := fun i => by
  obtain ⟨z, e, b⟩ := h i
  refine ⟨z * k, ?_, ?_⟩
  · rw [Rat.intCast_mul, ← e, Rat.natCast_mul, natR k]; grind
  · rw [Int.natAbs_mul, Int.natAbs_natCast]; exact Nat.mul_le_mul_right _ b
theorem Bnd.sc {D M E B : Nat} {r : Row} {k : Rat} {y : Int} (h : Bnd D M r) (hk : k * (E : Rat) = y) (hy : y.natAbs ≤ B) : Bnd (D * E) (M * B) (scR r (-k)) := fun i => by
  obtain ⟨z, e, b⟩ := h i
  refine ⟨-(z * y), ?_, ?_⟩
  · rw [scR_get, Rat.intCast_neg, Rat.intCast_mul, ← e, ← hk, Rat.natCast_mul]; grind
  · rw [Int.natAbs_neg, Int.natAbs_mul]; exact Nat.mul_le_mul b hy
theorem Bnd.add {D M N : Nat} {r s : Row} (hl : r.length = s.length) (h : Bnd D M r) (h2 : Bnd D N s) : Bnd D (M + N) (addR r s) := fun i => by
  obtain ⟨z1, e1, b1⟩ := h i
  obtain ⟨z2, e2, b2⟩ := h2 i
  refine ⟨z1 + z2, ?_, ?_⟩
  · rw [addR_get hl, Rat.intCast_add, ← e1, ← e2]; grind
  · have : (z1 + z2).natAbs ≤ z1.natAbs + z2.natAbs := Int.natAbs_add_le _ _
    omega
section
variable {n Df Dr M B : Nat}
theorem lok_of (hDf : 0 < Df) (hDr : 0 < Dr) (hM : Df ≤ M) (hB : Dr ≤ B) : ∀ (gs : List Row) (cur : Row) (j : Nat), (∀ g ∈ gs, g.length = n ∧ isZ g = false ∧ Bnd Df M g) → gs.Pairwise (fun g h => g.getD (lead h) 0 = 0) → cur.length = n →
    Bnd (Dr * Df) (B * M * (j + 1)) cur → (∀ g ∈ gs, ∃ z : Int, cur.getD (lead g) 0 * (Dr : Rat) = z ∧ z.natAbs ≤ B) → B * M * (j + 1 + gs.length) < 2 ^ 4400 → LOk gs cur ∧ Bnd (Dr * Df) (B * M * (j + 1 + gs.length)) (lessen gs cur)
  | [], cur, j, _, _, _, hb, _, _ => ⟨trivial, by simpa [lessen] using hb⟩
  | g :: gs, cur, j, hg, pw, hl, hb, hc, hs => by
    obtain ⟨g1, g2, g3⟩ := hg g List.mem_cons_self
    obtain ⟨z3, e3, b3⟩ := hc g List.mem_cons_self
    have pw' := List.pairwise_cons.mp pw
    have hDD : Dr * Df ≤ B * M := Nat.mul_le_mul hB hM
    have hD0 : 0 < Dr * Df := Nat.mul_pos hDr hDf
    have hBM : B * M ≤ B * M * (j + 1 + (g :: gs).length) := Nat.le_mul_of_pos_right _ (by omega)
    have hBMj : B * M * (j + 1) ≤ B * M * (j + 1 + (g :: gs).length) := Nat.mul_le_mul_left _ (by omega)
    have hMB : M ≤ B * M := Nat.le_mul_of_pos_left _ (by omega)
    have sc : Bnd (Dr * Df) (B * M) (scR g (-(cur.getD (lead g) 0))) := fun i => by
      obtain ⟨z2, e2, b2⟩ := g3 i
      refine ⟨-(z2 * z3), ?_, ?_⟩
      · rw [scR_get, Rat.intCast_neg, Rat.intCast_mul, ← e2, ← e3, Rat.natCast_mul]; grind
      · rw [Int.natAbs_neg, Int.natAbs_mul, Nat.mul_comm]; exact Nat.mul_le_mul b3 b2
    have s1 : Sms g := sms_of g3 hDf (by omega) (by omega)
    have s2 : Sms cur := sms_of hb hD0 (by omega) (by omega)
    have s3 : Sms (scR g (-(cur.getD (lead g) 0))) := sms_of sc hD0 (by omega) (by omega)
    have nb : Bnd (Dr * Df) (B * M * (j + 1 + 1)) (if cur.getD (lead g) 0 = 0 then cur else addR cur (scR g (-(cur.getD (lead g) 0)))) := by
      split
      · exact hb.mono (Nat.mul_le_mul_left _ (by omega))
      · intro i
        obtain ⟨z1, e1, b1⟩ := hb i
        obtain ⟨z2, e2, b2⟩ := sc i
        refine ⟨z1 + z2, ?_, ?_⟩
        · rw [addR_get (by rw [scR_len, hl, g1]), Rat.intCast_add, ← e1, ← e2]; grind
        · have : (z1 + z2).natAbs ≤ z1.natAbs + z2.natAbs := Int.natAbs_add_le _ _
          have e : B * M * (j + 1 + 1) = B * M * (j + 1) + B * M := Nat.mul_succ _ _
          omega
    have nl : (if cur.getD (lead g) 0 = 0 then cur else addR cur (scR g (-(cur.getD (lead g) 0)))).length = n := by
      split
      · exact hl
      · rw [addR_len _ _ (by rw [scR_len, hl, g1])]; exact hl
    have nc : ∀ h ∈ gs, ∃ z : Int, (if cur.getD (lead g) 0 = 0 then cur else addR cur (scR g (-(cur.getD (lead g) 0)))).getD (lead h) 0 * (Dr : Rat) = z ∧ z.natAbs ≤ B := fun h hh => by
      obtain ⟨z, e, b⟩ := hc h (List.mem_cons_of_mem _ hh)
      refine ⟨z, ?_, b⟩
      split
      · exact e
      · rw [addR_get (by rw [scR_len, hl, g1]), scR_get, pw'.1 h hh, ← e]; grind
    have hlen : j + 1 + (g :: gs).length = j + 1 + 1 + gs.length := by rw [List.length_cons]; omega
    rw [hlen] at hs ⊢
    obtain ⟨k1, k2⟩ := lok_of hDf hDr hM hB gs _ (j + 1) (fun h hh => hg h (List.mem_cons_of_mem _ hh)) pw'.2 nl nb nc hs
    exact ⟨⟨g2, by rw [g1, hl], s1, s2, s3, k1⟩, k2⟩
end
def FB (M : Nat) (fs : List Row) : Prop := ∃ D : Nat, 0 < D ∧ D ≤ M ∧ ∀ f ∈ fs, Bnd D M f
def RB (B : Nat) (r : Row) : Prop := FB B [r]
def RSt (fs : List Row) (row : Row) : Prop := LOk fs row ∧ (isZ (lessen fs row) = false → Sms (lessen fs row) ∧ Sm ((lessen fs row).getD (lead (lessen fs row)) 0) ∧ Sm (1 / (lessen fs row).getD (lead (lessen fs row)) 0) ∧
  ∀ f ∈ fs, LOk [scR (lessen fs row) (1 / (lessen fs row).getD (lead (lessen fs row)) 0)] f)
theorem step_ok {n M B M' : Nat} {fs : List Row} {row : Row} (R : Rd n fs) (hr : row.length = n) (F : FB M fs) (hb : RB B row) (hm : 2 * (fs.length + 1) * B * (M * M) ≤ M') (hs : M' < 2 ^ 4400) :
    RSt fs row ∧ (isZ (lessen fs row) = false → FB M' (redStep fs row)) := by
  obtain ⟨Df, hDf, hM, hf_⟩ := F
  obtain ⟨Dr, hDr, hB, hrow⟩ := hb
  have hrow := hrow row (List.mem_singleton.mpr rfl)
  have M1 : 1 ≤ M := by omega
  have B1 : 1 ≤ B := by omega
  generalize hW : B * M * (0 + 1 + fs.length) = W
  have hWM : 2 * (W * M) ≤ M' := by
    refine Nat.le_trans (Nat.le_of_eq ?_) hm
    rw [← hW]; grind
  have WM : W ≤ W * M := Nat.le_mul_of_pos_right _ M1
  have BMW : B * M ≤ W := by rw [← hW]; exact Nat.le_mul_of_pos_right _ (by omega)
  have DD : Dr * Df ≤ B * M := Nat.mul_le_mul hB hM
  have hD0 : 0 < Dr * Df := Nat.mul_pos hDr hDf
  have MBM : M ≤ B * M := Nat.le_mul_of_pos_left _ B1
  have hb0 : Bnd (Dr * Df) (B * M * (0 + 1)) row := (hrow.scale (k := Df)).mono (by rw [Nat.zero_add, Nat.mul_one]; exact Nat.mul_le_mul_left _ hM)
  obtain ⟨ok, bo⟩ := lok_of hDf hDr hM hB fs row 0 (fun g hg => ⟨R.len g hg, R.nz g hg, hf_ g hg⟩) (R.off.imp fun h => h.2) hr hb0 (fun g _ => hrow (lead g)) (by rw [hW]; omega)
  rw [hW] at bo
  have lo := lessen_len fs row n hr R.len
  have nw : isZ (lessen fs row) = false → New n fs (scR (lessen fs row) (1 / (lessen fs row).getD (lead (lessen fs row)) 0)) := new_of R hr
  unfold RSt redStep
  simp only []
  generalize lessen fs row = o at * -- lessen fs row = o at *
  have key : isZ o = false → (Sms o ∧ Sm (o.getD (lead o) 0) ∧ Sm (1 / o.getD (lead o) 0)) ∧ ∃ L : Nat, 0 < L ∧ L ≤ W ∧ Bnd L W (scR o (1 / o.getD (lead o) 0)) := fun hz => by
    have hc := lead_get hz
    obtain ⟨zc, ec, bc⟩ := bo (lead o)
    have zc0 : zc ≠ 0 := by
      intro q
      rw [q] at ec
      have : ((Dr * Df : Nat) : Rat) ≠ 0 := by
        intro q2
        have := Rat.intCast_inj.mp (show ((Dr * Df : Nat) : Int) = (((0 : Int)) : Rat) from q2)
        omega
      rcases Rat.mul_eq_zero.mp (show o.getD (lead o) 0 * ((Dr * Df : Nat) : Rat) = 0 from ec) with q | q
      · exact hc q
      · exact this q
    have L0 : 0 < zc.natAbs := by omega
    have sg : ∃ s : Int, (s = 1 ∨ s = -1) ∧ ((zc.natAbs : Nat) : Int) = s * zc := by
      rcases Int.natAbs_eq zc with h | h
      · exact ⟨1, .inl rfl, by omega⟩
      · exact ⟨-1, .inr rfl, by omega⟩
    obtain ⟨sgn, hsg, hzs⟩ := sg
    have hzR : ((zc.natAbs : Nat) : Rat) = (sgn : Rat) * (zc : Rat) := by rw [natR, hzs, Rat.intCast_mul]
    have inv : ∀ (x : Rat) (z : Int), x * ((Dr * Df : Nat) : Rat) = z → x * (1 / o.getD (lead o) 0) * ((zc.natAbs : Nat) : Rat) = ((sgn * z : Int) : Rat) := fun x z e => by
      rw [hzR, Rat.intCast_mul, ← e, ← ec]; grind
    have sab : ∀ z : Int, (sgn * z).natAbs = z.natAbs := fun z => by
      rcases hsg with h | h
      · rw [h]; simp
      · rw [h]; simp
    refine ⟨⟨sms_of bo hD0 (by omega) (by omega), sm_of ec hD0 (by omega) (by omega), ?_⟩, zc.natAbs, L0, bc, fun i => ?_⟩
    · have e1 := inv 1 ((Dr * Df : Nat) : Int) (by rw [natR]; grind)
      rw [Rat.one_mul] at e1
      exact sm_of e1 L0 (by omega) (by rw [sab, Int.natAbs_natCast]; omega)
    · obtain ⟨z, e, b⟩ := bo i
      refine ⟨sgn * z, ?_, by rw [sab]; exact b⟩
      rw [scR_get]; exact inv _ z e
  constructor
  · refine ⟨ok, fun hz => ?_⟩
    obtain ⟨⟨k1, k2, k3⟩, L, L0, LW, bL⟩ := key hz
    have N := nw hz
    refine ⟨k1, k2, k3, fun f hf => ?_⟩
    generalize scR o (1 / o.getD (lead o) 0) = o' at *
    obtain ⟨z, e, b⟩ := hf_ f hf (lead o')
    have bs := bL.sc e b
    have hLD : L * Df ≤ W * M := Nat.mul_le_mul LW hM
    exact ⟨N.nz, by rw [N.len, R.len f hf], sms_of bL L0 (by omega) (by omega), sms_of (hf_ f hf) hDf (by omega) (by omega), sms_of bs (Nat.mul_pos L0 hDf) (by omega) (by omega), trivial⟩
  · intro hz
    obtain ⟨⟨k1, k2, k3⟩, L, L0, LW, bL⟩ := key hz
    have N := nw hz
    have hLD : L * Df ≤ W * M := Nat.mul_le_mul LW hM
    have hML : M * L ≤ W * M := by rw [Nat.mul_comm M L]; exact Nat.mul_le_mul_right _ LW
    have hWD : W * Df ≤ W * M := Nat.mul_le_mul_left _ hM
    refine ⟨L * Df, Nat.mul_pos L0 hDf, by omega, ?_⟩
    simp only [hz, Bool.false_eq_true, if_false]
    generalize scR o (1 / o.getD (lead o) 0) = o' at *
    intro f hf
    rcases List.mem_append.mp hf with hf | hf
    · obtain ⟨g, hg, rfl⟩ := List.mem_map.mp hf
      obtain ⟨z, e, b⟩ := hf_ g hg (lead o')
      have bs := bL.sc e b
      have b0 : Bnd (L * Df) (M * L) g := by
        have := (hf_ g hg).scale (k := L)
        rwa [Nat.mul_comm Df L] at this
      rw [less1]
      split
      · exact b0.mono (by omega)
      · exact (Bnd.add (by rw [scR_len, N.len, R.len g hg]) b0 bs).mono (by omega)
    · rw [List.mem_singleton.mp hf]
      exact (bL.scale (k := Df)).mono (by omega)
def ROk : List Row → List Row → Prop
  | _, [] => True
  | fs, r :: rs => RSt fs r ∧ ROk (redStep fs r) rs
theorem step_len (fs : List Row) (row : Row) : (redStep fs row).length = fs.length + (if isZ (lessen fs row) = true then 0 else 1) := by
  unfold redStep
  split <;> simp_all
theorem FB.mono {M M' : Nat} {fs : List Row} (h : FB M fs) (hm : M ≤ M') : FB M' fs :=
  let ⟨D, h0, hD, hf⟩ := h
  ⟨D, h0, by omega, fun f hq => (hf f hq).mono hm⟩
theorem FB.perm {M : Nat} {fs gs : List Row} (h : FB M fs) (p : gs.Perm fs) : FB M gs :=
  let ⟨D, h0, hD, hf⟩ := h
  ⟨D, h0, hD, fun f hq => hf f (p.mem_iff.mp hq)⟩
theorem rok_of {n K : Nat} {M B : Nat → Nat} (hM : ∀ k, k < K → 2 * (k + 1) * B k * (M k * M k) ≤ M (k + 1)) (hs : ∀ k, k ≤ K → M k < 2 ^ 4400) : ∀ (rows fs : List Row), Rd n fs → (∀ r ∈ rows, r.length = n) → fs.length + rows.length ≤ K → FB (M fs.length) fs →
    (∀ i r, rows[i]? = some r → ∀ k, k ≤ fs.length + i → RB (B k) r) → ROk fs rows ∧ ∃ k, k = (rows.foldl redStep fs).length ∧ k ≤ K ∧ FB (M k) (rows.foldl redStep fs)
  | [], fs, R, _, hk, F, _ => ⟨trivial, _, rfl, by simpa using hk, F⟩
  | r :: rows, fs, R, hl, hk, F, hb => by
    simp only [List.length_cons] at hk
    have hr := hl r List.mem_cons_self
    obtain ⟨a, b⟩ := step_ok R hr F (hb 0 r rfl fs.length (by omega)) (hM fs.length (by omega)) (hs _ (by omega))
    have sl := step_len fs r
    have F' : FB (M (redStep fs r).length) (redStep fs r) := by
      rw [sl]
      by_cases hz : isZ (lessen fs r) = true
      · rw [if_pos hz]
        unfold redStep
        rw [if_pos hz]
        exact F
      · rw [if_neg hz]; exact b (by simpa using hz)
    have sl2 : (redStep fs r).length ≤ fs.length + 1 := by rw [sl]; split <;> omega
    have sl3 : fs.length ≤ (redStep fs r).length := by rw [sl]; omega
    obtain ⟨c, d⟩ := rok_of hM hs rows (redStep fs r) (rd_step R hr) (fun q hq => hl q (List.mem_cons_of_mem _ hq)) (by omega) F' (fun i q hi k hk => hb (i + 1) q hi k (by omega))
    exact ⟨⟨a, c⟩, d⟩
end Ma
end
section
/-! MA5: the law's elimination: rows of ticks, their span, the rank. -/
namespace Ma
theorem rd_new {n : Nat} {fs : List Row} {o : Row} (R : Rd n fs) (N : New n fs o) : Rd n (fs.map (fun f => lessen [o] f) ++ [o]) := by
  refine ⟨fun f hf => ?_, fun f hf => ?_, fun f hf => ?_, ?_⟩
  · rcases List.mem_append.mp hf with hf | hf
    · obtain ⟨g, hg, rfl⟩ := List.mem_map.mp hf
      exact less1_len N.len (R.len g hg)
    · rw [List.mem_singleton.mp hf]; exact N.len
  · rcases List.mem_append.mp hf with hf | hf
    · obtain ⟨g, hg, rfl⟩ := List.mem_map.mp hf
      exact (lead_less1 R N hg).2.1
    · rw [List.mem_singleton.mp hf]; exact N.nz
  · rcases List.mem_append.mp hf with hf | hf
    · obtain ⟨g, hg, rfl⟩ := List.mem_map.mp hf
      rw [(lead_less1 R N hg).1]
      exact (lead_less1 R N hg).2.2.1
    · rw [List.mem_singleton.mp hf]; exact N.one
  · rw [List.pairwise_append]
    refine ⟨?_, List.pairwise_singleton _ _, fun f hf g hg => ?_⟩
    · rw [List.pairwise_map]
      refine List.Pairwise.imp_of_mem ?_ R.off
      intro f g hf hg ⟨h1, h2⟩
      rw [(lead_less1 R N hf).1, (lead_less1 R N hg).1, less1_get N.len (R.len g hg), less1_get N.len (R.len f hf), h1, h2, N.off f hf, N.off g hg]
      constructor <;> grind
    · obtain ⟨f', hf', rfl⟩ := List.mem_map.mp hf
      rw [List.mem_singleton.mp hg, (lead_less1 R N hf').1]
      exact ⟨N.off f' hf', (lead_less1 R N hf').2.2.2⟩
/-! spans -/
inductive Sp (rows : List Row) : (Nat → Rat) → Prop
  | zero : Sp rows (fun _ => 0)
  | add {v : Nat → Rat} (r : Row) (h : r ∈ rows) (k : Rat) : Sp rows v → Sp rows (fun i => v i + k * r.getD i 0)
theorem Sp.row {rows : List Row} {r : Row} (h : r ∈ rows) : Sp rows (fun i => r.getD i 0) := by
  have := Sp.add r h 1 (Sp.zero (rows := rows))
  have e : (fun i => (fun _ => (0 : Rat)) i + 1 * r.getD i 0) = fun i => r.getD i 0 := funext fun i => by grind
  rwa [e] at this
theorem Sp.plus {rows : List Row} {u v : Nat → Rat} (k : Rat) (hu : Sp rows u) (hv : Sp rows v) : Sp rows (fun i => u i + k * v i) := by
  induction hv with
  | zero =>
    have e : (fun i => u i + k * (fun _ => (0 : Rat)) i) = u := funext fun i => by grind
    rwa [e]
  | @add v r h c _ ih =>
    have := Sp.add r h (k * c) ih
    have e : (fun i => (fun i => u i + k * v i) i + k * c * r.getD i 0) = fun i => u i + k * (v i + c * r.getD i 0) := funext fun i => by grind
    rwa [e] at this
theorem Sp.trans {rows rows' : List Row} (h : ∀ r ∈ rows, Sp rows' (fun i => r.getD i 0)) {v : Nat → Rat} (hv : Sp rows v) : Sp rows' v := by
  induction hv with
  | zero => exact .zero
  | add r hr k _ ih => exact ih.plus k (h r hr)
theorem Sp.at0 {rows : List Row} {p : Nat} (h : ∀ r ∈ rows, r.getD p 0 = 0) {v : Nat → Rat} (hv : Sp rows v) : v p = 0 := by
  induction hv with
  | zero => rfl
  | @add v r hr k _ ih =>
    show v p + k * r.getD p 0 = 0
    rw [h r hr, ih]; grind
/-- weights and spans -/
theorem sp_of_sum (rows : List Row) (w : Nat → Rat) : ∀ m, m ≤ rows.length → Sp rows (fun p => sumF m (fun i => w i * (rows.getD i []).getD p 0))
  | 0, _ => .zero
  | m + 1, h => by
    have ih := sp_of_sum rows w m (by omega)
    have hm : rows.getD m [] ∈ rows := by
      rw [List.getD, List.getElem?_eq_getElem (by omega)]
      exact List.getElem_mem (by omega)
    exact Sp.add _ hm (w m) ih
theorem sum_of_sp {rows : List Row} {v : Nat → Rat} (h : Sp rows v) : ∃ w : Nat → Rat, ∀ p, v p = sumF rows.length (fun i => w i * (rows.getD i []).getD p 0) := by
  induction h with
  | zero => exact ⟨fun _ => 0, fun p => (sumF_zero fun i _ => by grind).symm⟩
  | @add v r hr k _ ih =>
    obtain ⟨w, hw⟩ := ih
    obtain ⟨j, hj, e⟩ := List.mem_iff_getElem.mp hr
    have ej : rows.getD j [] = r := by rw [List.getD, List.getElem?_eq_getElem hj]; exact e
    refine ⟨fun i => w i + (if i = j then k else 0), fun p => ?_⟩
    have e2 : sumF rows.length (fun i => (w i + (if i = j then k else 0)) * (rows.getD i []).getD p 0) = sumF rows.length (fun i => w i * (rows.getD i []).getD p 0 + (if i = j then k else 0) * (rows.getD i []).getD p 0) := sumF_ext fun i _ => by grind
    show v p + k * r.getD p 0 = _
    rw [e2, sumF_add, hw p, sumF_one (f := fun i => (if i = j then k else 0) * (rows.getD i []).getD p 0) (a := j) hj fun i _ hi => by rw [if_neg hi]; grind, if_pos rfl, ej]
/-! the elimination -/
def headsF (left : List Row) (k : Nat) : List Nat := (List.range left.length).filter fun j => decide ((left.getD j []).getD k 0 ≠ 0)
def strk (row head : Row) (k : Nat) : Row := if row.getD k 0 = 0 then row else addR row (scR head (-(row.getD k 0)))
def headF (own : Row) (k : Nat) : Row := scR own (1 / own.getD k 0)
def lawStep (st : List Row × List Row) (k : Nat) : List Row × List Row := match headsF st.1 k with
  | [] => st
  | j :: _ => ((st.1.eraseIdx j).map (fun r => strk r (headF (st.1.getD j []) k) k), st.2.map (fun r => strk r (headF (st.1.getD j []) k) k) ++ [headF (st.1.getD j []) k])
def lawSteps (rows : List Row) (W : Nat) : List Row × List Row := (List.range W).foldl lawStep (rows, [])
theorem lawSteps_succ (rows : List Row) (W : Nat) : lawSteps rows (W + 1) = lawStep (lawSteps rows W) W := by
  unfold lawSteps
  rw [List.range_succ, List.foldl_append]
  rfl
theorem strk_less {row head : Row} {k : Nat} (h : lead head = k) : strk row head k = lessen [head] row := by
  rw [less1, h]; rfl
theorem heads_cons {left : List Row} {k j : Nat} {js : List Nat} (h : headsF left k = j :: js) : j < left.length ∧ (left.getD j []).getD k 0 ≠ 0 := by
  have : j ∈ headsF left k := by rw [h]; exact List.mem_cons_self
  obtain ⟨h1, h2⟩ := List.mem_filter.mp this
  exact ⟨List.mem_range.mp h1, by simpa using h2⟩
theorem heads_nil {left : List Row} {k : Nat} (h : headsF left k = []) : ∀ r ∈ left, r.getD k 0 = 0 := fun r hr => by
  obtain ⟨j, hj, e⟩ := List.mem_iff_getElem.mp hr
  have := List.filter_eq_nil_iff.mp h j (List.mem_range.mpr hj)
  have ej : left.getD j [] = r := by rw [List.getD, List.getElem?_eq_getElem hj]; exact e
  rw [ej] at this
  simpa using this
theorem heads_ne {left : List Row} {k : Nat} (h : ∃ r ∈ left, r.getD k 0 ≠ 0) : headsF left k ≠ [] := fun z => by
  obtain ⟨r, hr, hn⟩ := h
  exact hn (heads_nil z r hr)
/-- behind the first k columns -/
structure LI (n k : Nat) (wide : List Row) (st : List Row × List Row) : Prop where
  len : ∀ r ∈ st.1, r.length = n
  low : ∀ r ∈ st.1, ∀ i, i < k → r.getD i 0 = 0
  rd : Rd n st.2
  ld : ∀ f ∈ st.2, lead f < k
  out : ∀ r ∈ st.1, Sp wide (fun i => r.getD i 0)
  back : ∀ r ∈ wide, Sp (st.1 ++ st.2) (fun i => r.getD i 0)
theorem li_step {n k : Nat} {wide : List Row} {st : List Row × List Row} (I : LI n k wide st) (hk : k < n) (hout2 : ∀ f ∈ st.2, Sp wide (fun i => f.getD i 0)) :
    LI n (k + 1) wide (lawStep st k) ∧ ∀ f ∈ (lawStep st k).2, Sp wide (fun i => f.getD i 0) := by
  obtain ⟨left, found⟩ := st
  unfold lawStep
  split
  · rename_i h
    refine ⟨⟨I.len, fun r hr i hi => ?_, I.rd, fun f hf => Nat.lt_succ_of_lt (I.ld f hf), I.out, I.back⟩, hout2⟩
    by_cases e : i = k
    · rw [e]; exact heads_nil h r hr
    · exact I.low r hr i (by omega)
  · rename_i j js h
    obtain ⟨hj, hne⟩ := heads_cons h
    simp only [] at hj hne
    have hown : left.getD j [] ∈ left := by
      rw [List.getD, List.getElem?_eq_getElem hj]; exact List.getElem_mem hj
    simp only []
    generalize hO : left.getD j [] = own at *
    obtain ⟨l1, l2⟩ := lead_eq (r := own) (k := k) (fun i hi => I.low own hown i hi) hne
    have hc : (1 : Rat) / own.getD k 0 ≠ 0 := by grind
    have hl : lead (headF own k) = k ∧ isZ (headF own k) = false := by
      obtain ⟨a, b⟩ := sc_lead l2 hc
      exact ⟨a.trans l1, b⟩
    have hget : ∀ i, (headF own k).getD i 0 = own.getD i 0 * (1 / own.getD k 0) := fun i => scR_get _ _ _
    have N : New n found (headF own k) := by
      refine ⟨by rw [headF, scR_len]; exact I.len own hown, hl.2, ?_, fun f hf => ?_⟩
      · rw [hl.1, hget]; grind
      · rw [hget, I.low own hown _ (I.ld f hf)]; grind
    have hs : ∀ r, strk r (headF own k) k = lessen [headF own k] r := fun r => strk_less hl.1
    have sh : Sp wide (fun i => (headF own k).getD i 0) := by
      have := (Sp.zero (rows := wide)).plus (1 / own.getD k 0) (I.out own hown)
      have e : (fun i => (fun _ => (0 : Rat)) i + 1 / own.getD k 0 * own.getD i 0) = fun i => (headF own k).getD i 0 := funext fun i => by rw [hget]; grind
      rwa [e] at this
    generalize hH : headF own k = head at *
    have sl : ∀ r : Row, r.length = n → Sp wide (fun i => r.getD i 0) → Sp wide (fun i => (lessen [head] r).getD i 0) := fun r hr h => by
      have := h.plus (-(r.getD (lead head) 0)) sh
      have e : (fun i => r.getD i 0 + -(r.getD (lead head) 0) * head.getD i 0) = fun i => (lessen [head] r).getD i 0 := funext fun i => by rw [less1_get N.len hr]; grind
      rwa [e] at this
    simp only [hs]
    have mem1 : ∀ r ∈ left.eraseIdx j, r ∈ left := fun r hr => List.mem_of_mem_eraseIdx hr
    refine ⟨⟨fun r hr => ?_, fun r hr i hi => ?_, rd_new I.rd N, fun f hf => ?_, fun r hr => ?_, fun r hr => ?_⟩, fun f hf => ?_⟩
    · obtain ⟨g, hg, rfl⟩ := List.mem_map.mp hr
      exact less1_len N.len (I.len g (mem1 g hg))
    · obtain ⟨g, hg, rfl⟩ := List.mem_map.mp hr
      rw [less1_get N.len (I.len g (mem1 g hg)), hl.1]
      by_cases e : i = k
      · have := N.one
        rw [hl.1] at this
        rw [e, this]; grind
      · have h0 : head.getD i 0 = 0 := lead_before (r := head) (by rw [hl.1]; omega)
        rw [I.low g (mem1 g hg) i (by omega), h0]; grind
    · rcases List.mem_append.mp hf with hf | hf
      · obtain ⟨g, hg, rfl⟩ := List.mem_map.mp hf
        rw [(lead_less1 I.rd N hg).1]
        exact Nat.lt_succ_of_lt (I.ld g hg)
      · rw [List.mem_singleton.mp hf, hl.1]; exact Nat.lt_succ_self _
    · obtain ⟨g, hg, rfl⟩ := List.mem_map.mp hr
      exact sl g (I.len g (mem1 g hg)) (I.out g (mem1 g hg))
    · refine (I.back r hr).trans fun q hq => ?_
      have hmem : head ∈ (left.eraseIdx j).map (fun r => lessen [head] r) ++ (found.map (fun f => lessen [head] f) ++ [head]) := by simp
      have back : ∀ q : Row, q.length = n → lessen [head] q ∈ (left.eraseIdx j).map (fun r => lessen [head] r) ++ (found.map (fun f => lessen [head] f) ++ [head]) → Sp ((left.eraseIdx j).map (fun r => lessen [head] r) ++ (found.map (fun f => lessen [head] f) ++ [head])) (fun i => q.getD i 0) := fun q hq hm => by
        have := (Sp.row hm).plus (q.getD (lead head) 0) (Sp.row hmem)
        have e : (fun i => (lessen [head] q).getD i 0 + q.getD (lead head) 0 * head.getD i 0) = fun i => q.getD i 0 := funext fun i => by rw [less1_get N.len hq]; grind
        rwa [e] at this
      rcases List.mem_append.mp hq with hq | hq
      · by_cases e : q ∈ left.eraseIdx j
        · exact back q (I.len q hq) (List.mem_append_left _ (List.mem_map.mpr ⟨q, e, rfl⟩))
        · have eq : q = own := by
            have := (List.mem_eraseIdx_iff_getElem (l := left) (k := j) (x := q))
            obtain ⟨i, hi, e2⟩ := List.mem_iff_getElem.mp hq
            by_cases hij : i = j
            · subst hij
              rw [← hO, List.getD, List.getElem?_eq_getElem hi]
              exact e2.symm
            · exact absurd (this.mpr ⟨i, hi, hij, e2⟩) e
          rw [eq]
          have := (Sp.zero (rows := (left.eraseIdx j).map (fun r => lessen [head] r) ++ (found.map (fun f => lessen [head] f) ++ [head]))).plus (own.getD k 0) (Sp.row hmem)
          have e3 : (fun i => (fun _ => (0 : Rat)) i + own.getD k 0 * head.getD i 0) = fun i => own.getD i 0 := funext fun i => by rw [hget]; grind
          rwa [e3] at this
      · exact back q (I.rd.len q hq) (List.mem_append_right _ (List.mem_append_left _ (List.mem_map.mpr ⟨q, hq, rfl⟩)))
    · rcases List.mem_append.mp hf with hf | hf
      · obtain ⟨g, hg, rfl⟩ := List.mem_map.mp hf
        exact sl g (I.rd.len g hg) (hout2 g hg)
      · rw [List.mem_singleton.mp hf]; exact sh
theorem li_all {n : Nat} {wide : List Row} (hl : ∀ r ∈ wide, r.length = n) : ∀ k, k ≤ n → LI n k wide (lawSteps wide k) ∧ ∀ f ∈ (lawSteps wide k).2, Sp wide (fun i => f.getD i 0)
  | 0, _ => ⟨⟨hl, fun _ _ i hi => by omega, rd_nil n, (fun f hf => nomatch hf), fun r hr => Sp.row hr, fun r hr => Sp.row (List.mem_append_left _ hr)⟩, fun f hf => nomatch hf⟩
  | k + 1, hk => by
    obtain ⟨a, b⟩ := li_all hl k (by omega)
    rw [lawSteps_succ]
    exact li_step a (by omega) b
/-- all that is left is 0 iff what is 0 ahead of w is 0 -/
theorem left_zero {n w : Nat} {wide : List Row} (hl : ∀ r ∈ wide, r.length = n) (hw : w ≤ n) :
    (∀ r ∈ (lawSteps wide w).1, ∀ i, r.getD i 0 = 0) ↔ ∀ u, Sp wide u → (∀ p, p < w → u p = 0) → ∀ p, p < n → u p = 0 := by
  obtain ⟨I, _⟩ := li_all hl w hw
  constructor
  · intro h u hu h0 p hp
    by_cases hpw : p < w
    · exact h0 p hpw
    have hu2 : Sp (lawSteps wide w).2 u := (hu.trans I.back).trans fun r hr => by
      rcases List.mem_append.mp hr with hr | hr
      · have e : (fun i => r.getD i 0) = fun _ => 0 := funext fun i => h r hr i
        rw [e]; exact .zero
      · exact Sp.row hr
    have hf : ∀ f ∈ (lawSteps wide w).2, lead f ≠ p := fun f hf => by have := I.ld f hf; omega
    have za := nul_ann I.rd hp hf
    have key : ∀ v, Sp (lawSteps wide w).2 v → sumF n (fun i => v i * (nullRow (lawSteps wide w).2 n p).getD i 0) = 0 := fun v hv => by
      induction hv with
      | zero => exact sumF_zero fun i _ => by grind
      | @add v r hr k _ ih =>
        have hz := za r hr
        rw [dotF_sum, I.rd.len r hr] at hz
        have e : sumF n (fun i => (v i + k * r.getD i 0) * (nullRow (lawSteps wide w).2 n p).getD i 0) = sumF n (fun i => v i * (nullRow (lawSteps wide w).2 n p).getD i 0 + k * (r.getD i 0 * (nullRow (lawSteps wide w).2 n p).getD i 0)) := sumF_ext fun i _ => by grind
        rw [e, sumF_add, sumF_mul, ih, hz]
        grind
    have := key u hu2
    rw [sumF_one (a := p) hp fun i hi hip => ?_, nul_free I.rd hp hf, if_pos rfl] at this
    · grind
    · by_cases hq : ∃ g ∈ (lawSteps wide w).2, lead g = i
      · obtain ⟨g, hg, e⟩ := hq
        have := I.ld g hg
        rw [h0 i (by omega)]; grind
      · rw [nul_free I.rd hi fun g hg e => hq ⟨g, hg, e⟩, if_neg hip]; grind
  · intro h r hr i
    by_cases hi : i < n
    · exact h _ (I.out r hr) (fun p hp => I.low r hr p hp) i hi
    · rw [List.getD, List.getElem?_eq_none (by rw [I.len r hr]; omega)]; rfl
theorem step_grow (st : List Row × List Row) (k : Nat) : st.2.length ≤ (lawStep st k).2.length := by
  unfold lawStep
  split
  · exact Nat.le_refl _
  · simp
theorem steps_grow (rows : List Row) (k : Nat) : ∀ d, (lawSteps rows k).2.length ≤ (lawSteps rows (k + d)).2.length
  | 0 => Nat.le_refl _
  | d + 1 => by
    rw [← Nat.add_assoc, lawSteps_succ]
    exact Nat.le_trans (steps_grow rows k d) (step_grow _ _)
/-- the rank grows behind w iff not all that is left is 0 -/
theorem rank_same {n : Nat} {wide : List Row} (hl : ∀ r ∈ wide, r.length = n) : ∀ d w, w + d = n → ((lawSteps wide n).2.length = (lawSteps wide w).2.length ↔ ∀ r ∈ (lawSteps wide w).1, ∀ i, r.getD i 0 = 0)
  | 0, w, e => by
    have : w = n := by omega
    subst this
    obtain ⟨I, _⟩ := li_all hl w (Nat.le_refl _)
    refine ⟨fun _ r hr i => ?_, fun _ => rfl⟩
    by_cases hi : i < w
    · exact I.low r hr i hi
    · rw [List.getD, List.getElem?_eq_none (by rw [I.len r hr]; omega)]; rfl
  | d + 1, w, e => by
    have ih := rank_same hl d (w + 1) (by omega)
    cases h : headsF (lawSteps wide w).1 w with
    | nil =>
      have es : lawSteps wide (w + 1) = lawSteps wide w := by
        rw [lawSteps_succ]
        unfold lawStep
        rw [h]
      rw [es] at ih
      exact ih
    | cons j js =>
      have es : (lawSteps wide (w + 1)).2.length = (lawSteps wide w).2.length + 1 := by
        rw [lawSteps_succ]
        unfold lawStep
        rw [h]
        simp
      have g := steps_grow wide (w + 1) d
      rw [show w + 1 + d = n by omega] at g
      obtain ⟨hj, hne⟩ := heads_cons h
      constructor
      · intro k; omega
      · intro k
        exact absurd (k _ (by rw [List.getD, List.getElem?_eq_getElem hj]; exact List.getElem_mem hj) w) hne
end Ma
end
section
/-! MA6: the law's rank test is the program's test; sizes of the law's rows. -/
namespace Ma
theorem take_get {r : Row} {w k : Nat} (h : k < w) : (r.take w).getD k 0 = r.getD k 0 := by
  simp only [List.getD, List.getElem?_take, if_pos h]
theorem map_getD (left : List Row) (w j : Nat) : (left.map (List.take w)).getD j [] = (left.getD j []).take w := by
  simp only [List.getD, List.getElem?_map]
  cases left[j]? <;> simp
theorem heads_take {left : List Row} {w k : Nat} (h : k < w) : headsF (left.map (List.take w)) k = headsF left k := by
  unfold headsF
  rw [List.length_map]
  refine List.filter_congr fun j _ => ?_
  rw [map_getD, take_get h]
theorem sc_take (r : Row) (k : Rat) (w : Nat) : scR (r.take w) k = (scR r k).take w := by
  unfold scR
  rw [List.map_take]
theorem add_take (r s : Row) (w : Nat) : addR (r.take w) (s.take w) = (addR r s).take w := by
  unfold addR
  rw [List.take_zipWith]
theorem strk_take {r head : Row} {w k : Nat} (h : k < w) : strk (r.take w) (head.take w) k = (strk r head k).take w := by
  unfold strk
  rw [take_get h, sc_take, add_take]
  split <;> rfl
theorem head_take {own : Row} {w k : Nat} (h : k < w) : headF (own.take w) k = (headF own k).take w := by
  unfold headF
  rw [take_get h, sc_take]
theorem erase_map {α β : Type} (f : α → β) : ∀ (l : List α) (j : Nat), (l.map f).eraseIdx j = (l.eraseIdx j).map f
  | [], _ => by simp
  | _ :: _, 0 => by simp
  | _ :: l, j + 1 => by simp [erase_map f l j]
theorem step_take {st : List Row × List Row} {w k : Nat} (h : k < w) : lawStep (st.1.map (List.take w), st.2.map (List.take w)) k = ((lawStep st k).1.map (List.take w), (lawStep st k).2.map (List.take w)) := by
  unfold lawStep
  simp only [heads_take h]
  split
  · rfl
  · simp only [map_getD, head_take h, List.map_append, List.map_map, List.map_cons, List.map_nil]
    congr 1
    · rw [erase_map, List.map_map]
      exact List.map_congr_left fun r _ => strk_take h
    · congr 1
      exact List.map_congr_left fun r _ => strk_take h
theorem steps_take (rows : List Row) (w : Nat) : ∀ k, k ≤ w → lawSteps (rows.map (List.take w)) k = ((lawSteps rows k).1.map (List.take w), (lawSteps rows k).2.map (List.take w))
  | 0, _ => rfl
  | k + 1, h => by
    rw [lawSteps_succ, lawSteps_succ, steps_take rows w k (by omega), step_take (by omega)]
def wideF (cols nexts : List Row) : List Row := List.zipWith (· ++ ·) cols nexts
theorem wide_get {cols nexts : List Row} (h : cols.length = nexts.length) (i : Nat) : (wideF cols nexts).getD i [] = cols.getD i [] ++ nexts.getD i [] := by
  unfold wideF
  by_cases hi : i < cols.length
  · have h2 : i < nexts.length := by omega
    simp only [List.getD, List.getElem?_zipWith, List.getElem?_eq_getElem hi, List.getElem?_eq_getElem h2, Option.getD_some]
  · have h2 : ¬ i < nexts.length := by omega
    simp [List.getD, List.getElem?_zipWith, List.getElem?_eq_none (Nat.le_of_not_lt hi), List.getElem?_eq_none (Nat.le_of_not_lt h2)]
theorem wide_len {cols nexts : List Row} (h : cols.length = nexts.length) : (wideF cols nexts).length = cols.length := by
  unfold wideF
  rw [List.length_zipWith]; omega
theorem wide_rows {w n : Nat} {cols nexts : List Row} (hc : ∀ r ∈ cols, r.length = w) (hn : ∀ r ∈ nexts, r.length = n) : ∀ r ∈ wideF cols nexts, r.length = w + n := fun r hr => by
  obtain ⟨i, hi, e⟩ := List.mem_iff_getElem.mp hr
  unfold wideF at hi e
  rw [List.length_zipWith] at hi
  rw [List.getElem_zipWith] at e
  rw [← e, List.length_append, hc _ (List.getElem_mem (by omega)), hn _ (List.getElem_mem (by omega))]
theorem wide_take {w n : Nat} : ∀ {cols nexts : List Row}, cols.length = nexts.length → (∀ r ∈ cols, r.length = w) → (wideF cols nexts).map (List.take w) = cols
  | [], _, _, _ => by simp [wideF]
  | _ :: _, [], h, _ => by simp at h
  | c :: cols, x :: nexts, h, hc => by
    have ih := wide_take (w := w) (n := n) (cols := cols) (nexts := nexts) (by simpa using h) fun r hr => hc r (List.mem_cons_of_mem _ hr)
    simp only [wideF] at ih
    have hl := hc c List.mem_cons_self
    simp only [wideF, List.zipWith_cons_cons, List.map_cons, ih]
    rw [List.take_append_of_le_length (by omega), List.take_of_length_le (by omega)]
/-- what vanishes on the columns vanishes on what follows them -/
def Grf (w n : Nat) (cols nexts : List Row) : Prop := ∀ v : Nat → Rat, (∀ p, p < w → sumF cols.length (fun i => v i * (cols.getD i []).getD p 0) = 0) → ∀ j, j < n → sumF cols.length (fun i => v i * (nexts.getD i []).getD j 0) = 0
theorem app_get {r s : Row} {w p : Nat} (hr : r.length = w) : (r ++ s).getD p 0 = if p < w then r.getD p 0 else s.getD (p - w) 0 := by
  simp only [List.getD]
  split
  · rw [List.getElem?_append_left (by omega)]
  · rw [List.getElem?_append_right (by omega), hr]
theorem rank_iff {w n : Nat} {cols nexts : List Row} (h : cols.length = nexts.length) (hc : ∀ r ∈ cols, r.length = w) (hn : ∀ r ∈ nexts, r.length = n) :
    (lawSteps (wideF cols nexts) (w + n)).2.length = (lawSteps cols w).2.length ↔ Grf w n cols nexts := by
  have hl := wide_rows hc hn
  have e1 : (lawSteps cols w).2.length = (lawSteps (wideF cols nexts) w).2.length := by
    have := steps_take (wideF cols nexts) w w (Nat.le_refl _)
    rw [wide_take (n := n) h hc] at this
    rw [this, List.length_map]
  rw [e1, rank_same hl n w rfl, left_zero hl (by omega)]
  have cl : ∀ i, i < cols.length → (cols.getD i []).length = w := fun i hi => by
    rw [List.getD, List.getElem?_eq_getElem hi]; exact hc _ (List.getElem_mem hi)
  have wg : ∀ i, i < cols.length → ∀ p, ((wideF cols nexts).getD i []).getD p 0 = if p < w then (cols.getD i []).getD p 0 else (nexts.getD i []).getD (p - w) 0 := fun i hi p => by
    rw [wide_get h, app_get (cl i hi)]
  constructor
  · intro k v hv j hj
    have := k _ (sp_of_sum (wideF cols nexts) v cols.length (by rw [wide_len h]; exact Nat.le_refl _)) (fun p hp => (sumF_ext fun i hi => by rw [wg i hi, if_pos hp]).trans (hv p hp)) (w + j) (by omega)
    exact (sumF_ext fun i hi => by rw [wg i hi, if_neg (by omega), show w + j - w = j by omega]).trans this
  · intro k u hu h0 p hp
    obtain ⟨v, hv⟩ := sum_of_sp hu
    rw [wide_len h] at hv
    by_cases hpw : p < w
    · exact h0 p hpw
    · have := k v (fun q hq => (sumF_ext fun i hi => by rw [wg i hi, if_pos hq]).trans ((hv q).symm.trans (h0 q hq))) (p - w) (by omega)
      rw [hv p]
      exact (sumF_ext fun i hi => by rw [wg i hi, if_neg hpw]).trans this
/-! sizes -/
theorem head_bnd {D M k : Nat} {own : Row} (h : Bnd D M own) (h0 : 0 < D) (hc : own.getD k 0 ≠ 0) : ∃ Lz : Nat, 0 < Lz ∧ Lz ≤ M ∧ Bnd Lz M (headF own k) := by
  obtain ⟨zc, ec, bc⟩ := h k
  have zc0 : zc ≠ 0 := by
    intro q
    rw [q] at ec
    have hd : ((D : Nat) : Rat) ≠ 0 := by
      intro q2
      have := Rat.intCast_inj.mp (show ((D : Nat) : Int) = (((0 : Int)) : Rat) from q2)
      omega
    rcases Rat.mul_eq_zero.mp (show own.getD k 0 * ((D : Nat) : Rat) = 0 from ec) with q | q
    · exact hc q
    · exact hd q
  have sg : ∃ s : Int, (s = 1 ∨ s = -1) ∧ ((zc.natAbs : Nat) : Int) = s * zc := by
    rcases Int.natAbs_eq zc with h | h
    · exact ⟨1, .inl rfl, by omega⟩
    · exact ⟨-1, .inr rfl, by omega⟩
  obtain ⟨sgn, hsg, hzs⟩ := sg
  have hzR : ((zc.natAbs : Nat) : Rat) = (sgn : Rat) * (zc : Rat) := by rw [natR, hzs, Rat.intCast_mul]
  refine ⟨zc.natAbs, by omega, bc, fun i => ?_⟩
  obtain ⟨z, e, b⟩ := h i
  refine ⟨sgn * z, ?_, ?_⟩
  · unfold headF
    rw [scR_get, hzR, Rat.intCast_mul, ← e, ← ec]; grind
  · rcases hsg with h | h
    · rw [h]; simpa using b
    · rw [h]; simpa using b
/-- what struck asks of sizes -/
def KOk (r head : Row) (k : Nat) : Prop := r.length = head.length ∧ k < r.length ∧ Sms r ∧ Sms head ∧ Sms (scR head (r.getD k 0))
/-- what a column asks of sizes -/
def SOk (st : List Row × List Row) (k : Nat) : Prop := ∀ j js, headsF st.1 k = j :: js → Sms (st.1.getD j []) ∧ (∀ r ∈ st.1.eraseIdx j, KOk r (headF (st.1.getD j []) k) k) ∧ ∀ r ∈ st.2, KOk r (headF (st.1.getD j []) k) k
theorem Bnd.sc' {D M E B : Nat} {r : Row} {k : Rat} {y : Int} (h : Bnd D M r) (hk : k * (E : Rat) = y) (hy : y.natAbs ≤ B) : Bnd (D * E) (M * B) (scR r k) := fun i => by
  obtain ⟨z, e, b⟩ := h i
  refine ⟨z * y, ?_, ?_⟩
  · rw [scR_get, Rat.intCast_mul, ← e, ← hk, Rat.natCast_mul]; grind
  · rw [Int.natAbs_mul]; exact Nat.mul_le_mul b hy
theorem strk_step {n k M M' : Nat} {st : List Row × List Row} (hl1 : ∀ r ∈ st.1, r.length = n) (hl2 : ∀ r ∈ st.2, r.length = n) (hk : k < n) (F : FB M (st.1 ++ st.2)) (hm : 2 * (M * M) ≤ M') (hs : M' < 2 ^ 4400) :
    SOk st k ∧ FB M' ((lawStep st k).1 ++ (lawStep st k).2) := by
  obtain ⟨D, h0, hD, hf⟩ := F
  have M1 : 1 ≤ M := by omega
  have MM : M ≤ M * M := Nat.le_mul_of_pos_right _ M1
  have hf1 : ∀ r ∈ st.1, Bnd D M r := fun r hr => hf r (List.mem_append_left _ hr)
  have hf2 : ∀ r ∈ st.2, Bnd D M r := fun r hr => hf r (List.mem_append_right _ hr)
  cases h : headsF st.1 k with
  | nil =>
    refine ⟨(fun j js e => by rw [h] at e; cases e), ?_⟩
    unfold lawStep
    rw [h]
    exact FB.mono ⟨D, h0, hD, hf⟩ (by omega)
  | cons j js =>
    obtain ⟨hj, hne⟩ := heads_cons h
    have hown : st.1.getD j [] ∈ st.1 := by
      rw [List.getD, List.getElem?_eq_getElem hj]; exact List.getElem_mem hj
    have el : ∀ r ∈ st.1.eraseIdx j, r ∈ st.1 := fun r hr => List.mem_of_mem_eraseIdx hr
    have ho := hf1 _ hown
    have hol := hl1 _ hown
    obtain ⟨Lz, z0, zM, bh⟩ := head_bnd ho h0 hne
    have hhl : (headF (st.1.getD j []) k).length = n := by rw [headF, scR_len, hol]
    have one : ∀ r : Row, r.length = n → Bnd D M r → KOk r (headF (st.1.getD j []) k) k ∧ Bnd (D * Lz) M' (strk r (headF (st.1.getD j []) k) k) := fun r hr hb => by
      obtain ⟨zr, er, br⟩ := hb k
      have bs := bh.sc' er br
      have bn := bh.sc er br
      have hLD : Lz * D ≤ M * M := Nat.mul_le_mul zM hD
      refine ⟨⟨by rw [hr, hhl], by omega, sms_of hb h0 (by omega) (by omega), sms_of bh z0 (by omega) (by omega), sms_of bs (Nat.mul_pos z0 h0) (by omega) (by omega)⟩, ?_⟩
      have b0 : Bnd (D * Lz) (M * Lz) r := hb.scale
      have hML : M * Lz ≤ M * M := Nat.mul_le_mul_left _ zM
      unfold strk
      split
      · exact b0.mono (by omega)
      · rw [Nat.mul_comm D Lz] at b0 ⊢
        exact (Bnd.add (by rw [scR_len, hhl, hr]) b0 bn).mono (by omega)
    refine ⟨fun j' js' e => ?_, ?_⟩
    · rw [h] at e
      cases e
      exact ⟨sms_of ho h0 (by omega) (by omega), fun r hr => (one r (hl1 r (el r hr)) (hf1 r (el r hr))).1, fun r hr => (one r (hl2 r hr) (hf2 r hr)).1⟩
    · refine ⟨D * Lz, Nat.mul_pos h0 z0, by have := Nat.mul_le_mul hD zM; omega, fun r hr => ?_⟩
      unfold lawStep at hr
      rw [h] at hr
      simp only [] at hr
      rcases List.mem_append.mp hr with hr | hr
      · obtain ⟨g, hg, rfl⟩ := List.mem_map.mp hr
        exact (one g (hl1 g (el g hg)) (hf1 g (el g hg))).2
      · rcases List.mem_append.mp hr with hr | hr
        · obtain ⟨g, hg, rfl⟩ := List.mem_map.mp hr
          exact (one g (hl2 g hg) (hf2 g hg)).2
        · rw [List.mem_singleton.mp hr]
          have := bh.scale (k := D)
          rw [Nat.mul_comm Lz D] at this
          exact this.mono (by have := Nat.mul_le_mul_left M hD; omega)
theorem step_lens {n : Nat} {st : List Row × List Row} {k : Nat} (h1 : ∀ r ∈ st.1, r.length = n) (h2 : ∀ r ∈ st.2, r.length = n) : (∀ r ∈ (lawStep st k).1, r.length = n) ∧ ∀ r ∈ (lawStep st k).2, r.length = n := by
  unfold lawStep
  split
  · exact ⟨h1, h2⟩
  · rename_i j js h
    obtain ⟨hj, hne⟩ := heads_cons h
    have hown : st.1.getD j [] ∈ st.1 := by
      rw [List.getD, List.getElem?_eq_getElem hj]; exact List.getElem_mem hj
    have hhl : (headF (st.1.getD j []) k).length = n := by rw [headF, scR_len, h1 _ hown]
    have sl : ∀ r : Row, r.length = n → (strk r (headF (st.1.getD j []) k) k).length = n := fun r hr => by
      unfold strk
      split
      · exact hr
      · rw [addR_len _ _ (by rw [scR_len, hhl, hr])]; exact hr
    refine ⟨fun r hr => ?_, fun r hr => ?_⟩
    · obtain ⟨g, hg, rfl⟩ := List.mem_map.mp hr
      exact sl g (h1 g (List.mem_of_mem_eraseIdx hg))
    · rcases List.mem_append.mp hr with hr | hr
      · obtain ⟨g, hg, rfl⟩ := List.mem_map.mp hr
        exact sl g (h2 g hg)
      · rw [List.mem_singleton.mp hr]; exact hhl
theorem steps_ok {n : Nat} {rows : List Row} {M : Nat → Nat} (hl : ∀ r ∈ rows, r.length = n) (F : FB (M 0) rows) (hm : ∀ k, k < n → 2 * (M k * M k) ≤ M (k + 1)) (hs : ∀ k, k ≤ n → M k < 2 ^ 4400) :
    ∀ k, k ≤ n → (∀ r ∈ (lawSteps rows k).1, r.length = n) ∧ (∀ r ∈ (lawSteps rows k).2, r.length = n) ∧ FB (M k) ((lawSteps rows k).1 ++ (lawSteps rows k).2) ∧ ∀ i, i < k → SOk (lawSteps rows i) i
  | 0, _ => ⟨hl, (fun _ z => nomatch z), by simpa [lawSteps] using F, fun i hi => by omega⟩
  | k + 1, h => by
    obtain ⟨a, b, c, d⟩ := steps_ok hl F hm hs k (by omega)
    obtain ⟨e1, e2⟩ := strk_step (k := k) a b (by omega) c (hm k (by omega)) (hs _ h)
    obtain ⟨f1, f2⟩ := step_lens (k := k) a b
    rw [lawSteps_succ]
    refine ⟨f1, f2, e2, fun i hi => ?_⟩
    by_cases e : i = k
    · rw [e]; exact e1
    · exact d i (by omega)
end Ma
end
section
/-! MA7: sizes of drawn pieces. -/
set_option exponentiation.threshold 10000
namespace Ma
/-- a number over D with a top of at most M -/
def Sb (D M : Nat) (q : Rat) : Prop := ∃ z : Int, q * (D : Rat) = z ∧ z.natAbs ≤ M
theorem Sb.mono {D M M' : Nat} {q : Rat} (h : Sb D M q) (hm : M ≤ M') : Sb D M' q := let ⟨z, e, b⟩ := h; ⟨z, e, by omega⟩
theorem Sb.scale {D M k : Nat} {q : Rat} (h : Sb D M q) : Sb (D * k) (M * k) q := by
  obtain ⟨z, e, b⟩ := h
  refine ⟨z * k, ?_, ?_⟩
  · rw [Rat.intCast_mul, ← e, Rat.natCast_mul, natR k]; grind
  · rw [Int.natAbs_mul, Int.natAbs_natCast]; exact Nat.mul_le_mul_right _ b
theorem Sb.mul {D M E N : Nat} {p q : Rat} (h : Sb D M p) (h2 : Sb E N q) : Sb (D * E) (M * N) (p * q) := by
  obtain ⟨z, e, b⟩ := h
  obtain ⟨y, e2, b2⟩ := h2
  refine ⟨z * y, ?_, ?_⟩
  · rw [Rat.intCast_mul, ← e, ← e2, Rat.natCast_mul]; grind
  · rw [Int.natAbs_mul]; exact Nat.mul_le_mul b b2
theorem Sb.add {D M N : Nat} {p q : Rat} (h : Sb D M p) (h2 : Sb D N q) : Sb D (M + N) (p + q) := by
  obtain ⟨z, e, b⟩ := h
  obtain ⟨y, e2, b2⟩ := h2
  refine ⟨z + y, ?_, ?_⟩
  · rw [Rat.intCast_add, ← e, ← e2]; grind
  · have : (z + y).natAbs ≤ z.natAbs + y.natAbs := Int.natAbs_add_le _ _
    omega
theorem Sb.zero {D M : Nat} : Sb D M 0 := ⟨0, by rw [Rat.zero_mul]; rfl, by simp⟩
theorem Sb.sm {D M : Nat} {q : Rat} (h : Sb D M q) (h0 : 0 < D) (hD : D < 2 ^ 4400) (hM : M < 2 ^ 4400) : Sm q := by
  obtain ⟨z, e, b⟩ := h
  exact sm_of e h0 hD (by omega)
theorem bnd_of {D M : Nat} {r : Row} (h : ∀ x ∈ r, Sb D M x) : Bnd D M r := fun i => by
  by_cases hi : i < r.length
  · rw [List.getD, List.getElem?_eq_getElem hi]
    exact h _ (List.getElem_mem hi)
  · rw [List.getD, List.getElem?_eq_none (by omega)]
    exact Sb.zero
theorem Bnd.mem {D M : Nat} {r : Row} (h : Bnd D M r) : ∀ x ∈ r, Sb D M x := fun x hx => by
  obtain ⟨i, hi, rfl⟩ := List.mem_iff_getElem.mp hx
  have := h i
  rwa [List.getD, List.getElem?_eq_getElem hi] at this
def E0 : Nat → Nat
  | 0 => 0
  | 1 => 45
  | 2 => 136
  | 3 => 276
  | _ => 556
/-- sizes in the second reduction, k lines in the first -/
def E2 : Nat → Nat → Nat
  | 0, 0 => 0 | 0, 1 => 1 | 0, 2 => 4 | 0, 3 => 12 | 0, 4 => 27 | 0, 5 => 58 | 0, 6 => 120 | 0, _ => 244
  | 1, 0 => 0 | 1, 1 => 46 | 1, 2 => 139 | 1, 3 => 326 | 1, 4 => 700 | 1, 5 => 1449 | 1, _ => 2947
  | 2, 0 => 0 | 2, 1 => 137 | 2, 2 => 412 | 2, 3 => 963 | 2, 4 => 2065 | 2, _ => 4270
  | 3, 0 => 0 | 3, 1 => 277 | 3, 2 => 832 | 3, 3 => 1943 | 3, _ => 4165
  | _, 0 => 0 | _, 1 => 557 | _, 2 => 1672 | _, _ => 3903
theorem e0_ok : ∀ k, k < 4 → 2 * (k + 1) * (if k < 2 then 2 ^ 44 else 2) * (2 ^ E0 k * 2 ^ E0 k) ≤ 2 ^ E0 (k + 1) := by decide +kernel
theorem e2_ok : ∀ k, k < 5 → ∀ j, j < 7 - k → 2 * (j + 1) * 2 ^ E0 k * (2 ^ E2 k j * 2 ^ E2 k j) ≤ 2 ^ E2 k (j + 1) := by decide +kernel
theorem e2_le : ∀ k, k < 5 → ∀ j, j < 8 → E2 k j ≤ 4270 := by decide +kernel
theorem e0_le : ∀ k, k < 5 → E0 k ≤ 556 := by decide +kernel
end Ma
end
section
/-! MC0: chains of parts: greedy from the front, greedy from the back, all lots. -/
namespace Mc
section
variable (F : Nat → Nat → Bool)
/-- points from a to c, each step fits -/
def chn : Nat → List Nat → Nat → Prop
  | a, [], c => a < c ∧ F a c = true
  | a, p :: ps, c => a < p ∧ F a p = true ∧ chn p ps c
variable {F}
theorem chn_app : ∀ {a : Nat} {xs : List Nat} {p : Nat} {ys : List Nat} {c : Nat}, chn F a (xs ++ p :: ys) c ↔ chn F a xs p ∧ chn F p ys c
  | a, [], p, ys, c => by simp [chn, and_assoc]
  | a, x :: xs, p, ys, c => by
    have := chn_app (a := x) (xs := xs) (p := p) (ys := ys) (c := c)
    simp [chn, this, and_assoc]
theorem chn_lt : ∀ {ps : List Nat} {a c : Nat}, chn F a ps c → a < c ∧ ∀ p ∈ ps, a < p ∧ p < c
  | [], a, c, h => ⟨h.1, fun _ z => nomatch z⟩
  | q :: ps, a, c, h => by
    obtain ⟨h1, _, h3⟩ := h
    obtain ⟨k1, k2⟩ := chn_lt h3
    refine ⟨by omega, fun p hp => ?_⟩
    rcases List.mem_cons.mp hp with e | hp
    · subst e; exact ⟨h1, k1⟩
    · have := k2 p hp
      omega
/-- all of a part that fits fits -/
def Mono (F : Nat → Nat → Bool) (N : Nat) : Prop := ∀ a b a' b', a ≤ a' → a' < b' → b' ≤ b → b ≤ N → F a b = true → F a' b' = true
variable (F) (N : Nat)
/-- as far as it fits, from a to N -/
inductive Fr : Nat → List Nat → Prop
  | nil : Fr N []
  | cons {a b : Nat} {E : List Nat} : a < b → b ≤ N → (∀ x, a < x → x ≤ b → F a x = true) → (b < N → F a (b + 1) = false) → Fr b E → Fr a (b :: E)
/-- as far as it fits, from c back to 0 -/
inductive Bk : Nat → List Nat → Prop
  | nil : Bk 0 []
  | cons {c b : Nat} {D : List Nat} : b < c → (∀ x, b ≤ x → x < c → F x c = true) → (0 < b → F (b - 1) c = false) → Bk b D → Bk c (b :: D)
variable {F} {N}
theorem Fr.le {a : Nat} {E : List Nat} (h : Fr F N a E) : a ≤ N := by
  cases h with
  | nil => exact Nat.le_refl _
  | cons h1 h2 _ _ _ => omega
theorem Fr.gt {a : Nat} {E : List Nat} (h : Fr F N a E) : ∀ e ∈ E, a < e ∧ e ≤ N := by
  induction h with
  | nil => intro e z; cases z
  | cons h1 h2 _ _ _ ih =>
    intro e he
    rcases List.mem_cons.mp he with z | he
    · subst z; exact ⟨h1, h2⟩
    · have := ih e he; omega
theorem Fr.sort {a : Nat} {E : List Nat} (h : Fr F N a E) : E.Pairwise (· < ·) := by
  induction h with
  | nil => exact .nil
  | cons h1 h2 _ _ h5 ih => exact .cons (fun e he => (h5.gt e he).1) ih
theorem Fr.last {a : Nat} {E : List Nat} (h : Fr F N a E) (hE : E ≠ []) : E.getLast hE = N := by
  induction h with
  | nil => exact absurd rfl hE
  | @cons a b E h1 h2 _ _ h5 ih =>
    by_cases hz : E = []
    · subst hz
      cases h5
      rfl
    · rw [List.getLast_cons hz]; exact ih hz
theorem Fr.ne {a : Nat} {E : List Nat} (h : Fr F N a E) (ha : a < N) : E ≠ [] := by
  rintro rfl
  cases h
  omega
theorem Bk.lt {c : Nat} {D : List Nat} (h : Bk F c D) : ∀ e ∈ D, e < c := by
  induction h with
  | nil => intro e z; cases z
  | cons h1 _ _ _ ih =>
    intro e he
    rcases List.mem_cons.mp he with z | he
    · subst z; exact h1
    · have := ih e he; omega
theorem Bk.sort {c : Nat} {D : List Nat} (h : Bk F c D) : D.Pairwise (· > ·) := by
  induction h with
  | nil => exact .nil
  | cons h1 _ _ h5 ih => exact .cons (fun e he => h5.lt e he) ih
theorem Bk.last {c : Nat} {D : List Nat} (h : Bk F c D) (hD : D ≠ []) : D.getLast hD = 0 := by
  induction h with
  | nil => exact absurd rfl hD
  | @cons c b D h1 _ _ h5 ih =>
    by_cases hz : D = []
    · subst hz
      cases h5
      rfl
    · rw [List.getLast_cons hz]; exact ih hz
theorem fr_chn {a : Nat} {E : List Nat} (h : Fr F N a E) : ∀ {low : Nat}, a < low → low ≤ N → chn F a (E.filter (· < low)) low := by
  induction h with
  | nil => intro low h1 h2; omega
  | @cons a b E h1 h2 h3 h4 h5 ih =>
    intro low k1 k2
    by_cases hb : b < low
    · rw [List.filter_cons_of_pos (by simpa using hb)]
      exact ⟨h1, h3 b h1 (Nat.le_refl _), ih hb k2⟩
    · rw [List.filter_cons_of_neg (by simpa using hb), List.filter_eq_nil_iff.mpr fun e he => by
        have := (h5.gt e he).1
        simp; omega]
      exact ⟨k1, h3 low k1 (by omega)⟩
theorem fr_min (M : Mono F N) {a : Nat} {E : List Nat} (h : Fr F N a E) : ∀ {a' low : Nat} {ps : List Nat}, a' ≤ a → low ≤ N → chn F a' ps low → (E.filter (· < low)).length ≤ ps.length := by
  induction h with
  | nil => intro a' low ps _ _ _; exact Nat.zero_le _
  | @cons a b E h1 h2 h3 h4 h5 ih =>
    intro a' low ps k1 k2 k3
    by_cases hb : b < low
    · rw [List.filter_cons_of_pos (by simpa using hb)]
      have stuck : ∀ q, b < q → q ≤ N → F a' q = true → False := fun q q1 q2 q3 => by
        have := M a' q a (b + 1) k1 (by omega) (by omega) q2 q3
        rw [h4 (by omega)] at this
        cases this
      cases ps with
      | nil => exact (stuck low hb k2 k3.2).elim
      | cons p ps =>
        obtain ⟨c1, c2, c3⟩ := k3
        have hp : p ≤ b := Nat.le_of_not_lt fun q => stuck p q (by have := (chn_lt c3).1; omega) c2
        have := ih hp k2 c3
        simp only [List.length_cons]
        omega
    · rw [List.filter_cons_of_neg (by simpa using hb), List.filter_eq_nil_iff.mpr fun e he => by
        have := (h5.gt e he).1
        simp; omega]
      exact Nat.zero_le _
theorem bk_chn {c : Nat} {D : List Nat} (h : Bk F c D) : ∀ {high : Nat}, high < c → chn F high ((D.filter (high < ·)).reverse) c := by
  induction h with
  | nil => intro high h1; omega
  | @cons c b D h1 h2 h3 h4 ih =>
    intro high k1
    by_cases hb : high < b
    · rw [List.filter_cons_of_pos (by simpa using hb), List.reverse_cons]
      exact chn_app.mpr ⟨ih hb, h1, h2 b (Nat.le_refl _) h1⟩
    · rw [List.filter_cons_of_neg (by simpa using hb), List.filter_eq_nil_iff.mpr fun e he => by
        have := h4.lt e he
        simp; omega]
      exact ⟨k1, h2 high (by omega) k1⟩
theorem bk_min (M : Mono F N) {c : Nat} {D : List Nat} (h : Bk F c D) : ∀ {c' high : Nat} {ps : List Nat}, c ≤ c' → c' ≤ N → chn F high ps c' → (D.filter (high < ·)).length ≤ ps.length := by
  induction h with
  | nil => intro a' low ps _ _ _; exact Nat.zero_le _
  | @cons c b D h1 h2 h3 h4 ih =>
    intro c' high ps k1 k2 k3
    by_cases hb : high < b
    · rw [List.filter_cons_of_pos (by simpa using hb)]
      have stuck : ∀ q, q < b → F q c' = true → False := fun q q1 q3 => by
        have := M q c' (b - 1) c (by omega) (by omega) k1 k2 q3
        rw [h3 (by omega)] at this
        cases this
      rcases List.eq_nil_or_concat ps with rfl | ⟨ps', p, rfl⟩
      · exact (stuck high hb k3.2).elim
      · rw [List.concat_eq_append] at k3
        obtain ⟨c1, c2⟩ := chn_app.mp k3
        have hp : b ≤ p := Nat.le_of_not_lt fun q => stuck p q c2.2
        have := ih hp (by have := c2.1; omega) c1
        simp only [List.length_cons, List.concat_eq_append, List.length_append, List.length_singleton]
        omega
    · rw [List.filter_cons_of_neg (by simpa using hb), List.filter_eq_nil_iff.mpr fun e he => by
        have := h4.lt e he
        simp; omega]
      exact Nat.zero_le _
end
end Mc
end
section
/-! MC1: what the greedy parts say of all lots of changes. -/
namespace Mc
theorem asc_ge {p : Nat} : ∀ {E : List Nat} {j : Nat}, E.Pairwise (· < ·) → j < E.length → E.getD j 0 < p → j < (E.filter (· < p)).length
  | [], j, _, h, _ => by simp at h
  | e :: E, 0, _, _, h => by
    rw [List.filter_cons_of_pos (by simpa using h)]
    simp
  | e :: E, j + 1, pw, h, hp => by
    obtain ⟨p1, p2⟩ := List.pairwise_cons.mp pw
    have hj : j < E.length := by simpa using h
    have he : e < E.getD j 0 := by
      rw [List.getD, List.getElem?_eq_getElem hj]
      exact p1 _ (List.getElem_mem hj)
    have hp' : E.getD j 0 < p := by simpa using hp
    rw [List.filter_cons_of_pos (by simp; omega)]
    have := asc_ge p2 hj hp'
    simp only [List.length_cons]
    omega
theorem asc_le {p : Nat} : ∀ {E : List Nat} {j : Nat}, E.Pairwise (· < ·) → j < E.length → p ≤ E.getD j 0 → (E.filter (· < p)).length ≤ j
  | [], j, _, h, _ => by simp at h
  | e :: E, 0, pw, _, h => by
    obtain ⟨p1, p2⟩ := List.pairwise_cons.mp pw
    have h' : p ≤ e := by simpa using h
    rw [List.filter_cons_of_neg (by simp; omega), List.filter_eq_nil_iff.mpr fun x hx => by
      have := p1 x hx
      simp; omega]
    simp
  | e :: E, j + 1, pw, h, hp => by
    obtain ⟨p1, p2⟩ := List.pairwise_cons.mp pw
    have hj : j < E.length := by simpa using h
    have := asc_le p2 hj (by simpa using hp)
    have h2 : ((e :: E).filter (· < p)).length ≤ (E.filter (· < p)).length + 1 := by
      rw [List.filter_cons]
      split <;> simp
    omega
theorem desc_ge {p : Nat} : ∀ {E : List Nat} {j : Nat}, E.Pairwise (· > ·) → j < E.length → p < E.getD j 0 → j < (E.filter (p < ·)).length
  | [], j, _, h, _ => by simp at h
  | e :: E, 0, _, _, h => by
    rw [List.filter_cons_of_pos (by simpa using h)]
    simp
  | e :: E, j + 1, pw, h, hp => by
    obtain ⟨p1, p2⟩ := List.pairwise_cons.mp pw
    have hj : j < E.length := by simpa using h
    have he : e > E.getD j 0 := by
      rw [List.getD, List.getElem?_eq_getElem hj]
      exact p1 _ (List.getElem_mem hj)
    have hp' : p < E.getD j 0 := by simpa using hp
    rw [List.filter_cons_of_pos (by simp; omega)]
    have := desc_ge p2 hj hp'
    simp only [List.length_cons]
    omega
theorem desc_le {p : Nat} : ∀ {E : List Nat} {j : Nat}, E.Pairwise (· > ·) → j < E.length → E.getD j 0 ≤ p → (E.filter (p < ·)).length ≤ j
  | [], j, _, h, _ => by simp at h
  | e :: E, 0, pw, _, h => by
    obtain ⟨p1, p2⟩ := List.pairwise_cons.mp pw
    have h' : e ≤ p := by simpa using h
    rw [List.filter_cons_of_neg (by simp; omega), List.filter_eq_nil_iff.mpr fun x hx => by
      have := p1 x hx
      simp; omega]
    simp
  | e :: E, j + 1, pw, h, hp => by
    obtain ⟨p1, p2⟩ := List.pairwise_cons.mp pw
    have hj : j < E.length := by simpa using h
    have := desc_le p2 hj (by simpa using hp)
    have h2 : ((e :: E).filter (p < ·)).length ≤ (E.filter (p < ·)).length + 1 := by
      rw [List.filter_cons]
      split <;> simp
    omega
section
variable {F : Nat → Nat → Bool} {N : Nat} {E D : List Nat}
theorem snoc_of {l : List Nat} (h : l ≠ []) {z : Nat} (e : l.getLast h = z) : l = l.dropLast ++ [z] := by
  rw [← e]; exact (List.dropLast_concat_getLast h).symm
theorem fr_init (hN : 0 < N) (hE : Fr F N 0 E) : E.filter (· < N) = E.dropLast ∧ E.length = E.dropLast.length + 1 := by
  have ne := hE.ne hN
  have e := snoc_of ne (hE.last ne)
  have pw := hE.sort
  generalize E.dropLast = X at *
  subst e
  obtain ⟨_, _, p3⟩ := List.pairwise_append.mp pw
  constructor
  · rw [List.filter_append, List.filter_eq_self.mpr fun x hx => by
      have := p3 x hx N (List.mem_singleton.mpr rfl)
      simpa using this]
    simp
  · simp
theorem bk_ne {c : Nat} (hN : 0 < c) (hD : Bk F c D) : D ≠ [] := by
  rintro rfl
  cases hD
  omega
theorem bk_init (hN : 0 < N) (hD : Bk F N D) : D.filter (0 < ·) = D.dropLast ∧ D.length = D.dropLast.length + 1 := by
  have ne := bk_ne hN hD
  have e := snoc_of ne (hD.last ne)
  have pw := hD.sort
  generalize D.dropLast = X at *
  subst e
  obtain ⟨_, _, p3⟩ := List.pairwise_append.mp pw
  constructor
  · rw [List.filter_append, List.filter_eq_self.mpr fun x hx => by
      have := p3 x hx 0 (List.mem_singleton.mpr rfl)
      simpa using this]
    simp
  · simp
variable (hN : 0 < N) (M : Mono F N) (hE : Fr F N 0 E) (hD : Bk F N D)
include hN M hE
theorem lot_min {own : List Nat} (h : chn F 0 own N) : E.length ≤ own.length + 1 := by
  obtain ⟨e1, e2⟩ := fr_init hN hE
  have := fr_min M hE (Nat.le_refl _) (Nat.le_refl _) h
  rw [e1] at this
  omega
omit M in
theorem lot_front : chn F 0 E.dropLast N := by
  have := fr_chn hE hN (Nat.le_refl _)
  rwa [(fr_init hN hE).1] at this
include hD
omit M hE in
theorem lot_back : chn F 0 D.dropLast.reverse N := by
  have := bk_chn hD hN
  rwa [(bk_init hN hD).1] at this
theorem same_len : D.length = E.length := by
  obtain ⟨e1, e2⟩ := fr_init hN hE
  obtain ⟨e3, e4⟩ := bk_init hN hD
  have h1 := lot_min hN M hE (lot_back hN hD)
  have h2 := bk_min M hD (Nat.le_refl _) (Nat.le_refl _) (lot_front hN hE)
  rw [e3] at h2
  rw [List.length_reverse] at h1
  omega
theorem lot_place {xs ys : List Nat} {p : Nat} (h : chn F 0 (xs ++ p :: ys) N) (hl : xs.length + ys.length + 2 = E.length) : p ≤ E.getD xs.length 0 ∧ D.getD ys.length 0 ≤ p := by
  have hs := same_len hN M hE hD
  obtain ⟨c1, c2⟩ := chn_app.mp h
  have pN := (chn_lt c2).1
  constructor
  · refine Nat.le_of_not_lt fun q => ?_
    have k1 := asc_ge hE.sort (show xs.length < E.length by omega) q
    have k2 := fr_min M hE (Nat.le_refl _) (by omega) c1
    omega
  · refine Nat.le_of_not_lt fun q => ?_
    have k1 := desc_ge hD.sort (show ys.length < D.length by omega) q
    have k2 := bk_min M hD (Nat.le_refl _) (Nat.le_refl _) c2
    omega
/-- a change at k -/
theorem could_iff (k : Nat) : (∃ j, j + 1 < E.length ∧ D.getD (E.length - 2 - j) 0 ≤ k ∧ k ≤ E.getD j 0) ↔ ∃ own, chn F 0 own N ∧ own.length + 1 = E.length ∧ k ∈ own := by
  have hs := same_len hN M hE hD
  constructor
  · rintro ⟨j, hj, h1, h2⟩
    have k1 := asc_le hE.sort (show j < E.length by omega) h2
    have k2 := desc_le hD.sort (show E.length - 2 - j < D.length by omega) h1
    have kN : k < N := by
      have e := (fr_init hN hE).1
      have ne := hE.ne hN
      have : E.getD j 0 < N := by
        have hj' : j < E.dropLast.length := by rw [List.length_dropLast]; omega
        have m : E.dropLast[j] ∈ E.filter (· < N) := by rw [e]; exact List.getElem_mem hj'
        have := (List.mem_filter.mp m).2
        rw [List.getElem_dropLast] at this
        rw [List.getD, List.getElem?_eq_getElem (show j < E.length by omega)]
        simpa using this
      omega
    have k0 : 0 < k := by
      have e := (bk_init hN hD).1
      have : 0 < D.getD (E.length - 2 - j) 0 := by
        have hj' : E.length - 2 - j < D.dropLast.length := by rw [List.length_dropLast]; omega
        have m : D.dropLast[E.length - 2 - j] ∈ D.filter (0 < ·) := by rw [e]; exact List.getElem_mem hj'
        have := (List.mem_filter.mp m).2
        rw [List.getElem_dropLast] at this
        rw [List.getD, List.getElem?_eq_getElem (show E.length - 2 - j < D.length by omega)]
        simpa using this
      omega
    have c := chn_app.mpr ⟨fr_chn hE k0 (by omega), bk_chn hD kN⟩
    refine ⟨_, c, ?_, by simp⟩
    have := lot_min hN M hE c
    simp only [List.length_append, List.length_cons, List.length_reverse] at this ⊢
    omega
  · rintro ⟨own, h1, h2, h3⟩
    obtain ⟨xs, ys, rfl⟩ := List.append_of_mem h3
    simp only [List.length_append, List.length_cons] at h2
    obtain ⟨q1, q2⟩ := lot_place hN M hE hD h1 (by omega)
    refine ⟨xs.length, by omega, ?_, q1⟩
    rw [show E.length - 2 - xs.length = ys.length by omega]
    exact q2
def around (E D : List Nat) (low high N : Nat) : Nat := (if low = 0 then 0 else 1 + (E.filter (· < low)).length) + 1 + (if high = N then 0 else 1 + (D.filter (high < ·)).length)
omit M in
/-- the points of the fewest parts around a part -/
theorem around_chn {low high : Nat} (h : low < high) (hh : high ≤ N) (f : F low high = true) : ∃ own, chn F 0 own N ∧ own.length + 1 = around E D low high N ∧ ∀ k ∈ own, k ≤ low ∨ (high ≤ k ∧ high < N) := by
  have right : ∃ ys, chn F low ys N ∧ ys.length = (if high = N then 0 else 1 + (D.filter (high < ·)).length) ∧ ∀ k ∈ ys, high ≤ k ∧ high < N := by
    by_cases e : high = N
    · exact ⟨[], ⟨by omega, by rw [← e]; exact f⟩, by simp [e], fun _ z => nomatch z⟩
    · refine ⟨high :: (D.filter (high < ·)).reverse, ⟨h, f, bk_chn hD (by omega)⟩, by simp [e]; omega, fun k hk => ?_⟩
      rcases List.mem_cons.mp hk with z | hk
      · omega
      · have := (List.mem_filter.mp (List.mem_reverse.mp hk)).2
        simp at this
        omega
  obtain ⟨ys, y1, y2, y3⟩ := right
  by_cases e : low = 0
  · subst e
    exact ⟨ys, y1, by simp [around, y2]; omega, fun k hk => .inr (y3 k hk)⟩
  · refine ⟨E.filter (· < low) ++ low :: ys, chn_app.mpr ⟨fr_chn hE (by omega) (by omega), y1⟩, by simp [around, y2, e]; omega, fun k hk => ?_⟩
    rcases List.mem_append.mp hk with hk | hk
    · have := (List.mem_filter.mp hk).2
      simp at this
      omega
    · rcases List.mem_cons.mp hk with z | hk
      · omega
      · exact .inr (y3 k hk)
theorem sure_iff (first last : Int) : (∃ low high : Nat, low < high ∧ high ≤ N ∧ (low = 0 ∨ (low : Int) ≤ first) ∧ (high = N ∨ last < (high : Int)) ∧ around E D low high N = E.length ∧ F low high = true) ↔
    ∃ own, chn F 0 own N ∧ own.length + 1 = E.length ∧ ∀ k ∈ own, ¬ (first < (k : Int) ∧ (k : Int) ≤ last) := by
  have hs := same_len hN M hE hD
  constructor
  · rintro ⟨low, high, h1, h2, h3, h4, h5, h6⟩
    obtain ⟨own, o1, o2, o3⟩ := around_chn hN hE hD h1 h2 h6
    refine ⟨own, o1, by omega, fun k hk ⟨q1, q2⟩ => ?_⟩
    have k0 := (chn_lt o1).2 k hk
    rcases o3 k hk with z | ⟨z, z2⟩
    · rcases h3 with h3 | h3 <;> omega
    · rcases h4 with h4 | h4 <;> omega
  · rintro ⟨own, o1, o2, o3⟩
    -- the part that holds what stands between first and last
    have split : ∀ (a : Nat) (own : List Nat), chn F a own N → (a = 0 ∨ (a : Int) ≤ first) → (∀ k ∈ own, ¬ (first < (k : Int) ∧ (k : Int) ≤ last)) →
        ∃ low high, ∃ xs ys, low < high ∧ high ≤ N ∧ (low = 0 ∨ (low : Int) ≤ first) ∧ (high = N ∨ last < (high : Int)) ∧ F low high = true ∧ own.length = xs + ys ∧ ((low = a ∧ xs = 0) ∨ ∃ us, chn F a us low ∧ xs = us.length + 1) ∧ ((high = N ∧ ys = 0) ∨ ∃ us, chn F high us N ∧ ys = us.length + 1) := by
      intro a own
      induction own generalizing a with
      | nil =>
        intro c ha _
        exact ⟨a, N, 0, 0, c.1, Nat.le_refl _, ha, .inl rfl, c.2, rfl, .inl ⟨rfl, rfl⟩, .inl ⟨rfl, rfl⟩⟩
      | cons p own ih =>
        intro c ha hk
        obtain ⟨c1, c2, c3⟩ := c
        by_cases hp : (p : Int) ≤ first
        · obtain ⟨low, high, xs, ys, r1, r2, r3, r4, r5, r6, r7, r8⟩ := ih p c3 (.inr hp) fun k hk' => hk k (List.mem_cons_of_mem _ hk')
          refine ⟨low, high, xs + 1, ys, r1, r2, r3, r4, r5, by simp [r6]; omega, .inr ?_, r8⟩
          rcases r7 with ⟨rfl, rfl⟩ | ⟨us, u1, rfl⟩
          · exact ⟨[], ⟨c1, c2⟩, rfl⟩
          · exact ⟨p :: us, ⟨c1, c2, u1⟩, rfl⟩
        · have h1 := hk p List.mem_cons_self
          exact ⟨a, p, 0, own.length + 1, c1, by have := (chn_lt c3).1; omega, ha, .inr (by omega), c2, by simp, .inl ⟨rfl, rfl⟩, .inr ⟨own, c3, rfl⟩⟩
    obtain ⟨low, high, xs, ys, r1, r2, r3, r4, r5, r6, r7, r8⟩ := split 0 own o1 (.inl rfl) o3
    refine ⟨low, high, r1, r2, r3, r4, ?_, r5⟩
    obtain ⟨own2, q1, q2, _⟩ := around_chn hN hE hD r1 r2 r5
    have mn := lot_min hN M hE q1
    have left : (if low = 0 then 0 else 1 + (E.filter (· < low)).length) ≤ xs := by
      rcases r7 with ⟨rfl, rfl⟩ | ⟨us, u1, rfl⟩
      · simp
      · have := fr_min M hE (Nat.le_refl _) (by omega) u1
        split <;> omega
    have right : (if high = N then 0 else 1 + (D.filter (high < ·)).length) ≤ ys := by
      rcases r8 with ⟨rfl, rfl⟩ | ⟨us, u1, rfl⟩
      · simp
      · have := bk_min M hD (Nat.le_refl _) (Nat.le_refl _) u1
        split <;> omega
    have : around E D low high N ≤ xs + 1 + ys := by unfold around; omega
    omega
end
end Mc
end
section
/-! MC2: the greedy parts are there, and but once. -/
namespace Mc
section
variable {F : Nat → Nat → Bool} {N : Nat}
theorem grow_ex (a : Nat) : ∀ (k l : Nat), N < l + k → a < l → l ≤ N → (∀ x, a < x → x ≤ l → F a x = true) → ∃ b, a < b ∧ b ≤ N ∧ (∀ x, a < x → x ≤ b → F a x = true) ∧ (b < N → F a (b + 1) = false)
  | 0, l, h1, _, h3, _ => by omega
  | k + 1, l, h1, h2, h3, h4 => by
    by_cases hl : l < N
    · cases hf : F a (l + 1) with
      | true =>
        refine grow_ex a k (l + 1) (by omega) (by omega) (by omega) fun x x1 x2 => ?_
        by_cases hx : x = l + 1
        · rw [hx]; exact hf
        · exact h4 x x1 (by omega)
      | false => exact ⟨l, h2, h3, h4, fun _ => hf⟩
    · exact ⟨l, h2, h3, h4, fun z => absurd z hl⟩
theorem fr_ex (hall : ∀ a, a < N → F a (a + 1) = true) : ∀ (k a : Nat), N < a + k → a ≤ N → ∃ E, Fr F N a E
  | 0, a, h1, h2 => by omega
  | k + 1, a, h1, h2 => by
    by_cases ha : a < N
    · obtain ⟨b, b1, b2, b3, b4⟩ := grow_ex (F := F) (N := N) a (N + 1) (a + 1) (by omega) (by omega) (by omega) (fun x x1 x2 => by
        have : x = a + 1 := by omega
        rw [this]; exact hall a ha)
      obtain ⟨E, hE⟩ := fr_ex hall k b (by omega) b2
      exact ⟨b :: E, .cons b1 b2 b3 b4 hE⟩
    · have : a = N := by omega
      subst this
      exact ⟨[], .nil⟩
theorem fr_one {a : Nat} {E : List Nat} (h : Fr F N a E) : ∀ {E' : List Nat}, Fr F N a E' → E = E' := by
  induction h with
  | nil =>
    intro E' h'
    cases h' with
    | nil => rfl
    | cons h1 h2 _ _ _ => omega
  | @cons a b E h1 h2 h3 h4 h5 ih =>
    intro E' h'
    cases h' with
    | nil => omega
    | @cons _ b' E' k1 k2 k3 k4 k5 =>
      have e : b = b' := by
        rcases Nat.lt_trichotomy b b' with z | z | z
        · have := k3 (b + 1) (by omega) (by omega)
          rw [h4 (by omega)] at this
          cases this
        · exact z
        · have := h3 (b' + 1) (by omega) (by omega)
          rw [k4 (by omega)] at this
          cases this
      subst e
      rw [ih k5]
theorem shrink_ex (c : Nat) : ∀ (l : Nat), l < c → (∀ x, l ≤ x → x < c → F x c = true) → ∃ b, b < c ∧ (∀ x, b ≤ x → x < c → F x c = true) ∧ (0 < b → F (b - 1) c = false)
  | 0, h1, h2 => ⟨0, h1, h2, fun z => absurd z (Nat.lt_irrefl _)⟩
  | l + 1, h1, h2 => by
    cases hf : F l c with
    | true =>
      refine shrink_ex c l (by omega) fun x x1 x2 => ?_
      by_cases hx : x = l
      · rw [hx]; exact hf
      · exact h2 x (by omega) x2
    | false => exact ⟨l + 1, h1, h2, fun _ => hf⟩
theorem bk_ex (hall : ∀ a, a < N → F a (a + 1) = true) : ∀ (k c : Nat), c < k → c ≤ N → ∃ D, Bk F c D
  | 0, c, h1, _ => by omega
  | k + 1, c, h1, h2 => by
    by_cases hc : 0 < c
    · obtain ⟨b, b1, b3, b4⟩ := shrink_ex (F := F) c (c - 1) (by omega) (fun x x1 x2 => by
        have : x = c - 1 := by omega
        subst this
        have := hall (c - 1) (by omega)
        rwa [show c - 1 + 1 = c by omega] at this)
      obtain ⟨D, hD⟩ := bk_ex hall k b (by omega) (by omega)
      exact ⟨b :: D, .cons b1 b3 b4 hD⟩
    · have : c = 0 := by omega
      subst this
      exact ⟨[], .nil⟩
theorem bk_one {c : Nat} {D : List Nat} (h : Bk F c D) : ∀ {D' : List Nat}, Bk F c D' → D = D' := by
  induction h with
  | nil =>
    intro E' h'
    cases h' with
    | nil => rfl
    | cons h1 _ _ _ => omega
  | @cons c b D h1 h3 h4 h5 ih =>
    intro E' h'
    cases h' with
    | nil => omega
    | @cons _ b' D' k1 k3 k4 k5 =>
      have e : b = b' := by
        rcases Nat.lt_trichotomy b b' with z | z | z
        · have := h3 (b' - 1) (by omega) (by omega)
          rw [k4 (by omega)] at this
          cases this
        · exact z
        · have := k3 (b - 1) (by omega) (by omega)
          rw [h4 (by omega)] at this
          cases this
      subst e
      rw [ih k5]
end
end Mc
end
section
set_option Elab.async false
set_option linter.all false
set_option maxRecDepth 100000
/-! PS0: fractions: what the defs promise. -/
namespace Pd
open Ma
def frD (q : Rat) : D := .tup [.int q.num, .int q.den]
def t_part_of : TSD := (sSeq (sSet .va 2 (dCall gcd2 (dCons (dVar 0) (dCons (dVar 1) dNil))))
  (sSeq (sIf (bT (dBin ltD (dVar 1) (dC (.int 0)))) (sSet .va 2 (dUn negD (dVar 2))) sSkip)
  (sRet (dTup (dCons (dBin fdivD (dVar 0) (dVar 2)) (dCons (dBin fdivD (dVar 1) (dVar 2)) dNil))))))
def t_part_plus (sp_part_of : SpD) : TSD := (sSeq (sIf (dAnd (bT (dBin eqD (dBin ixD (dVar 0) (dC (.int 1))) (dC (.int 1)))) (bT (dBin eqD (dBin ixD (dVar 1) (dC (.int 1))) (dC (.int 1))))) (sRet (dTup (dCons (dBin addD (dBin ixD (dVar 0) (dC (.int 0))) (dBin ixD (dVar 1) (dC (.int 0)))) (dCons (dC (.int 1)) dNil)))) sSkip)
  (sRet (dFnN 2 sp_part_of (dCons (dBin addD (dBin mulD (dBin ixD (dVar 0) (dC (.int 0))) (dBin ixD (dVar 1) (dC (.int 1)))) (dBin mulD (dBin ixD (dVar 1) (dC (.int 0))) (dBin ixD (dVar 0) (dC (.int 1))))) (dCons (dBin mulD (dBin ixD (dVar 0) (dC (.int 1))) (dBin ixD (dVar 1) (dC (.int 1)))) dNil)))))
def t_part_minus : TSD := (sRet (dTup (dCons (dUn negD (dBin ixD (dVar 0) (dC (.int 0)))) (dCons (dBin ixD (dVar 0) (dC (.int 1))) dNil))))
def t_part_times (sp_part_of : SpD) : TSD := (sSeq (sIf (dAnd (bT (dBin eqD (dBin ixD (dVar 0) (dC (.int 1))) (dC (.int 1)))) (bT (dBin eqD (dBin ixD (dVar 1) (dC (.int 1))) (dC (.int 1))))) (sRet (dTup (dCons (dBin mulD (dBin ixD (dVar 0) (dC (.int 0))) (dBin ixD (dVar 1) (dC (.int 0)))) (dCons (dC (.int 1)) dNil)))) sSkip)
  (sRet (dFnN 2 sp_part_of (dCons (dBin mulD (dBin ixD (dVar 0) (dC (.int 0))) (dBin ixD (dVar 1) (dC (.int 0)))) (dCons (dBin mulD (dBin ixD (dVar 0) (dC (.int 1))) (dBin ixD (dVar 1) (dC (.int 1)))) dNil)))))
def t_part_over (sp_part_of : SpD) : TSD := (sRet (dFnN 2 sp_part_of (dCons (dBin mulD (dBin ixD (dVar 0) (dC (.int 0))) (dBin ixD (dVar 1) (dC (.int 1)))) (dCons (dBin mulD (dBin ixD (dVar 0) (dC (.int 1))) (dBin ixD (dVar 1) (dC (.int 0)))) dNil))))
def t_law_gcd : TSD := (sSeq (sWh (bT (dBin neD (dVar 1) (dC (.int 0)))) (sPar .va .va 0 1 (dVar 1) (dBin modD (dCall int1 (dCons (dVar 0) dNil)) (dVar 1))))
  (sRet (dCall abs1 (dCons (dVar 0) dNil))))
def t_law_fr (sp_law_gcd : SpD) : TSD := (sSeq (sSet .va 2 (dFnN 2 sp_law_gcd (dCons (dVar 0) (dCons (dVar 1) dNil))))
  (sRet (dTup (dCons (dBin fdivD (dVar 0) (dVar 2)) (dCons (dBin fdivD (dVar 1) (dVar 2)) dNil)))))
def t_law_sum (sp_law_fr : SpD) : TSD := (sRet (dFnN 2 sp_law_fr (dCons (dBin addD (dBin mulD (dBin ixD (dVar 0) (dC (.int 0))) (dBin ixD (dVar 1) (dC (.int 1)))) (dBin mulD (dBin ixD (dVar 1) (dC (.int 0))) (dBin ixD (dVar 0) (dC (.int 1))))) (dCons (dBin mulD (dBin ixD (dVar 0) (dC (.int 1))) (dBin ixD (dVar 1) (dC (.int 1)))) dNil))))
def t_law_less_by (sp_law_fr : SpD) : TSD := (sRet (dFnN 2 sp_law_fr (dCons (dBin subD (dBin mulD (dBin ixD (dVar 0) (dC (.int 0))) (dBin ixD (dVar 1) (dC (.int 1)))) (dBin mulD (dBin ixD (dVar 1) (dC (.int 0))) (dBin ixD (dVar 0) (dC (.int 1))))) (dCons (dBin mulD (dBin ixD (dVar 0) (dC (.int 1))) (dBin ixD (dVar 1) (dC (.int 1)))) dNil))))
def t_law_mul (sp_law_fr : SpD) : TSD := (sRet (dFnN 2 sp_law_fr (dCons (dBin mulD (dBin ixD (dVar 0) (dC (.int 0))) (dBin ixD (dVar 1) (dC (.int 0)))) (dCons (dBin mulD (dBin ixD (dVar 0) (dC (.int 1))) (dBin ixD (dVar 1) (dC (.int 1)))) dNil))))
def t_law_over_any (sp_law_fr : SpD) : TSD := (sRet (dFnN 2 sp_law_fr (dCons (dBin mulD (dBin mulD (dBin ixD (dVar 0) (dC (.int 0))) (dBin ixD (dVar 1) (dC (.int 1)))) (dIf (bT (dBin gtD (dBin ixD (dVar 1) (dC (.int 0))) (dC (.int 0)))) (dC (.int 1)) (dUn negD (dC (.int 1))))) (dCons (dBin mulD (dBin ixD (dVar 0) (dC (.int 1))) (dCall abs1 (dCons (dBin ixD (dVar 1) (dC (.int 0))) dNil))) dNil))))
def sp_part_of : SpD := fun ds c Q => ∃ a b : Int, ds = [.int a, .int b] ∧ b ≠ 0 ∧ b.natAbs < 2 ^ 8801 ∧ Q (frD ((a : Rat) / b)) c
def sp_bin (f : Rat → Rat → Rat) : SpD := fun ds c Q => ∃ p q : Rat, ds = [frD p, frD q] ∧ Sm p ∧ Sm q ∧ Q (frD (f p q)) c
def sp_part_plus : SpD := sp_bin (· + ·)
def sp_part_times : SpD := sp_bin (· * ·)
def sp_part_minus : SpD := fun ds c Q => ∃ p : Rat, ds = [frD p] ∧ Q (frD (-p)) c
def sp_part_over : SpD := fun ds c Q => ∃ p q : Rat, ds = [frD p, frD q] ∧ Sm p ∧ Sm q ∧ q ≠ 0 ∧ Q (frD (p / q)) c
theorem cdiv_of {i j : Int} (h0 : j ≠ 0) (h : j.natAbs.log2 < 9000) : CDivB i j := ⟨h0, h⟩
theorem cmul_sm {i j : Int} {k l : Nat} (h1 : i.natAbs < 2 ^ k) (h2 : j.natAbs < 2 ^ l) (hk : 0 < k) (hl : 0 < l) (h : k + l < 1000000) : L2.CMulW i j := by
  have a := log_lt h1 hk
  have b := log_lt h2 hl
  unfold L2.CMulW
  omega
theorem hs_part_of (ds : List D) (c : Nat) (Q : D → Nat → Prop) (h : sp_part_of ds c Q) : t_part_of (startR ["top", "bottom", "common"] ds) c (fun _ c' => Q .non c') Q := by
  obtain ⟨a, b, rfl, hb, hl, h⟩ := h
  have hg := gcd_pos a b hb
  have hlog := gcd_log (a := a) hb hl
  simp [t_part_of, startR, sSeq, sSet, dCall, dCons, dVar, dNil, gcd2, Kd.sl, sIf, bT, dBin, dC, ltD, sSkip, dUn, negD, sRet, dTup, fdivD]
  by_cases hn : b < 0
  · rw [if_pos hn]
    obtain ⟨e1, e2⟩ := fdiv_neg a b hn
    refine ⟨cdiv_of (by omega) (by simpa using hlog), cdiv_of (by omega) (by simpa using hlog), ?_⟩
    rw [e1, e2]
    exact h
  · rw [if_neg hn]
    obtain ⟨e1, e2⟩ := fdiv_pos a b (by omega)
    refine ⟨cdiv_of (by omega) (by simpa using hlog), cdiv_of (by omega) (by simpa using hlog), ?_⟩
    rw [e1, e2]
    exact h
theorem den_lt {p q : Rat} (h1 : Sm p) (h2 : Sm q) : ((p.den : Int) * (q.den : Int)).natAbs < 2 ^ 8801 := by
  have := mul_lt h1.den h2.den
  exact Nat.lt_of_lt_of_le this (Nat.pow_le_pow_right (by decide) (by decide))
theorem prod_ne (p q : Rat) : (p.den : Int) * (q.den : Int) ≠ 0 := Int.mul_ne_zero (den_ne p) (den_ne q)
theorem hs_part_plus (ds : List D) (c : Nat) (Q : D → Nat → Prop) (h : sp_part_plus ds c Q) : t_part_plus sp_part_of (startR ["one", "other"] ds) c (fun _ c' => Q .non c') Q := by
  obtain ⟨p, q, rfl, hp, hq, h⟩ := h
  have gen : L2.CMulW p.num ↑q.den ∧ L2.CMulW q.num ↑p.den ∧ L2.CMulW ↑p.den ↑q.den ∧ sp_part_of [D.int (p.num * ↑q.den + q.num * ↑p.den), D.int (↑p.den * ↑q.den)] c Q := by
    refine ⟨cmul_sm hp.1 hq.den (by decide) (by decide) (by decide), cmul_sm hq.1 hp.den (by decide) (by decide) (by decide), cmul_sm hp.den hq.den (by decide) (by decide) (by decide), _, _, rfl, prod_ne p q, den_lt hp hq, ?_⟩
    rw [add_form]
    exact h
  simp [t_part_plus, startR, sSeq, sSet, dCall, dCons, dVar, dNil, gcd2, Kd.sl, sIf, bT, dBin, dC, ltD, sSkip, dUn, negD, sRet, dTup, fdivD, frD, ixD, L2.atI, L2.ixN, dAnd, eqD, D.fine, D.py, PySem.PyData.eqv, addD, mulD, dFnN]
  split
  · split
    · rename_i h1 h2
      obtain ⟨e1, e2⟩ := add_int p q (by omega) (by omega)
      rw [← e1]
      unfold frD at h
      rw [e2] at h
      exact h
    · exact gen
  · exact gen
theorem hs_part_minus (ds : List D) (c : Nat) (Q : D → Nat → Prop) (h : sp_part_minus ds c Q) : t_part_minus (startR ["one"] ds) c (fun _ c' => Q .non c') Q := by
  obtain ⟨p, rfl, h⟩ := h
  simp [t_part_minus, startR, dCons, dVar, dNil, dBin, dC, dUn, negD, sRet, dTup, frD, ixD, L2.atI, L2.ixN]
  simpa [frD, Rat.neg_num, Rat.neg_den] using h
theorem hs_part_times (ds : List D) (c : Nat) (Q : D → Nat → Prop) (h : sp_part_times ds c Q) : t_part_times sp_part_of (startR ["one", "other"] ds) c (fun _ c' => Q .non c') Q := by
  obtain ⟨p, q, rfl, hp, hq, h⟩ := h
  have gen : L2.CMulW p.num q.num ∧ L2.CMulW ↑p.den ↑q.den ∧ sp_part_of [D.int (p.num * q.num), D.int (↑p.den * ↑q.den)] c Q := by
    refine ⟨cmul_sm hp.1 hq.1 (by decide) (by decide) (by decide), cmul_sm hp.den hq.den (by decide) (by decide) (by decide), _, _, rfl, prod_ne p q, den_lt hp hq, ?_⟩
    rw [mul_form]
    exact h
  simp [t_part_times, startR, sSeq, sSet, dCall, dCons, dVar, dNil, gcd2, Kd.sl, sIf, bT, dBin, dC, ltD, sSkip, dUn, negD, sRet, dTup, fdivD, frD, ixD, L2.atI, L2.ixN, dAnd, eqD, D.fine, D.py, PySem.PyData.eqv, addD, mulD, dFnN]
  split
  · split
    · rename_i h1 h2
      obtain ⟨e1, e2⟩ := mul_int p q (by omega) (by omega)
      refine ⟨cmul_sm hp.1 hq.1 (by decide) (by decide) (by decide), ?_⟩
      rw [← e1]
      unfold frD at h
      rw [e2] at h
      exact h
    · exact gen
  · exact gen
theorem hs_part_over (ds : List D) (c : Nat) (Q : D → Nat → Prop) (h : sp_part_over ds c Q) : t_part_over sp_part_of (startR ["one", "other"] ds) c (fun _ c' => Q .non c') Q := by
  obtain ⟨p, q, rfl, hp, hq, hz, h⟩ := h
  have nz : q.num ≠ 0 := fun z => hz (Rat.num_eq_zero.mp z)
  simp [t_part_over, startR, sSeq, sSet, dCall, dCons, dVar, dNil, dBin, dC, sRet, frD, ixD, L2.atI, L2.ixN, addD, mulD, dFnN]
  refine ⟨cmul_sm hp.1 hq.den (by decide) (by decide) (by decide), cmul_sm hp.den hq.1 (by decide) (by decide) (by decide), _, _, rfl, Int.mul_ne_zero (den_ne p) nz, ?_, ?_⟩
  · exact Nat.lt_of_lt_of_le (mul_lt hp.den hq.1) (Nat.pow_le_pow_right (by decide) (by decide))
  · rw [div_form p q hz]
    exact h
end Pd
end
section
set_option Elab.async false
set_option linter.all false
set_option maxRecDepth 100000
/-! PS1: fractions of the law. -/
namespace Pd
open Ma
theorem fmod_lt (a b : Int) (hb : b ≠ 0) : (a.fmod b).natAbs < b.natAbs := by
  rcases Int.lt_or_gt_of_ne hb with h | h
  · have h1 : a.fmod b = _ := Int.fmod_eq_emod
    have h2 := Int.emod_nonneg a hb
    have h3 := Int.emod_lt a hb
    rw [h1]
    split
    · omega
    · rename_i q
      have : ¬ b ∣ a := fun z => q (Or.inr z)
      have h4 : a % b ≠ 0 := fun z => this (Int.dvd_of_emod_eq_zero z)
      omega
  · have h1 := Int.fmod_nonneg_of_pos a h
    have h2 := Int.fmod_lt_of_pos a h
    omega
theorem gcd_fmod (a b : Int) : Nat.gcd b.natAbs (a.fmod b).natAbs = Nat.gcd a.natAbs b.natAbs := by
  have e : a.fmod b = a + b * (-(a.fdiv b)) := by
    have := Int.mul_fdiv_add_fmod a b
    grind
  have : Int.gcd b (a.fmod b) = Int.gcd b a := by
    rw [e]
    exact Int.gcd_add_mul_left_right b a _
  rw [Nat.gcd_comm a.natAbs]
  exact this
def sp_law_gcd : SpD := fun ds c Q => ∃ a b : Int, ds = [.int a, .int b] ∧ Q (.int ((Nat.gcd a.natAbs b.natAbs : Nat) : Int)) c
theorem gcd_loop (N : Rho → Nat → Prop) (R : D → Nat → Prop) (c : Nat) : ∀ (n : Nat) (a b : Int), b.natAbs < n → (∀ x : Int, x.natAbs = Nat.gcd a.natAbs b.natAbs → N [.va (.int x), .va (.int 0)] c) →
    whT (bT (dBin neD (dVar 1) (dC (.int 0)))) (sPar .va .va 0 1 (dVar 1) (dBin modD (dCall int1 (dCons (dVar 0) dNil)) (dVar 1))) n [.va (.int a), .va (.int b)] c N R := by
  intro n
  induction n with
  | zero => intro a b h; omega
  | succ n ih =>
    intro a b h k
    simp [whT, bT, dBin, dVar, dC, neD, D.fine, D.py, PySem.PyData.eqv, sPar, dCall, dCons, dNil, int1, modD, Kd.sl]
    by_cases hb : b = 0
    · subst hb
      simp
      exact k a (by simp)
    · simp [hb]
      refine ih b (a.fmod b) ?_ fun x hx => k x ?_
      · have := fmod_lt a b hb
        omega
      · rw [hx, gcd_fmod]
theorem hs_law_gcd (ds : List D) (c : Nat) (Q : D → Nat → Prop) (h : sp_law_gcd ds c Q) : t_law_gcd (startR ["_law_one_so", "_law_two_so"] ds) c (fun _ c' => Q .non c') Q := by
  obtain ⟨a, b, rfl, h⟩ := h
  refine ⟨b.natAbs + 1, gcd_loop _ _ c _ a b (by omega) fun x hx => ?_⟩
  simp [sRet, dCall, dCons, dVar, dNil, abs1]
  have : (if x < 0 then -x else x) = ((Nat.gcd a.natAbs b.natAbs : Nat) : Int) := by
    rw [← hx]
    split <;> omega
  rw [this]
  exact h
def sp_law_fr : SpD := fun ds c Q => ∃ a b : Int, ds = [.int a, .int b] ∧ 0 < b ∧ b.natAbs < 2 ^ 8801 ∧ Q (frD ((a : Rat) / b)) c
theorem hs_law_fr (ds : List D) (c : Nat) (Q : D → Nat → Prop) (h : sp_law_fr ds c Q) : t_law_fr sp_law_gcd (startR ["_law_top_so", "_law_base_so", "_law_deep_so"] ds) c (fun _ c' => Q .non c') Q := by
  obtain ⟨a, b, rfl, hb, hl, h⟩ := h
  have hg := gcd_pos a b (by omega)
  have hlog := gcd_log (a := a) (by omega) hl
  obtain ⟨e1, e2⟩ := fdiv_pos a b hb
  simp [t_law_fr, startR, sSeq, sSet, dFnN, dCons, dVar, dNil, Kd.sl, dBin, sRet, dTup, fdivD]
  refine ⟨a, b, rfl, ?_⟩
  simp
  refine ⟨cdiv_of (by omega) (by simpa using hlog), cdiv_of (by omega) (by simpa using hlog), ?_⟩
  rw [e1, e2]
  exact h
theorem den_gt (p q : Rat) : 0 < (p.den : Int) * (q.den : Int) := by
  have h1 : 0 < (p.den : Int) := by have := p.den_pos; omega
  have h2 : 0 < (q.den : Int) := by have := q.den_pos; omega
  exact Int.mul_pos h1 h2
def sp_law_sum : SpD := sp_bin (· + ·)
def sp_law_less_by : SpD := sp_bin (· - ·)
def sp_law_mul : SpD := sp_bin (· * ·)
def sp_law_over_any : SpD := sp_part_over
theorem hs_law_sum (ds : List D) (c : Nat) (Q : D → Nat → Prop) (h : sp_law_sum ds c Q) : t_law_sum sp_law_fr (startR ["_law_one_so", "_law_two_so"] ds) c (fun _ c' => Q .non c') Q := by
  obtain ⟨p, q, rfl, hp, hq, h⟩ := h
  simp [t_law_sum, startR, dCons, dVar, dNil, dBin, dC, sRet, frD, ixD, L2.atI, L2.ixN, addD, mulD, dFnN]
  refine ⟨cmul_sm hp.1 hq.den (by decide) (by decide) (by decide), cmul_sm hq.1 hp.den (by decide) (by decide) (by decide), cmul_sm hp.den hq.den (by decide) (by decide) (by decide), _, _, rfl, den_gt p q, den_lt hp hq, ?_⟩
  rw [add_form]
  exact h
theorem hs_law_less_by (ds : List D) (c : Nat) (Q : D → Nat → Prop) (h : sp_law_less_by ds c Q) : t_law_less_by sp_law_fr (startR ["_law_one_so", "_law_two_so"] ds) c (fun _ c' => Q .non c') Q := by
  obtain ⟨p, q, rfl, hp, hq, h⟩ := h
  simp [t_law_less_by, startR, dCons, dVar, dNil, dBin, dC, sRet, frD, ixD, L2.atI, L2.ixN, subD, mulD, dFnN]
  refine ⟨cmul_sm hp.1 hq.den (by decide) (by decide) (by decide), cmul_sm hq.1 hp.den (by decide) (by decide) (by decide), cmul_sm hp.den hq.den (by decide) (by decide) (by decide), _, _, rfl, den_gt p q, den_lt hp hq, ?_⟩
  rw [sub_form]
  exact h
theorem hs_law_mul (ds : List D) (c : Nat) (Q : D → Nat → Prop) (h : sp_law_mul ds c Q) : t_law_mul sp_law_fr (startR ["_law_one_so", "_law_two_so"] ds) c (fun _ c' => Q .non c') Q := by
  obtain ⟨p, q, rfl, hp, hq, h⟩ := h
  simp [t_law_mul, startR, dCons, dVar, dNil, dBin, dC, sRet, frD, ixD, L2.atI, L2.ixN, mulD, dFnN]
  refine ⟨cmul_sm hp.1 hq.1 (by decide) (by decide) (by decide), cmul_sm hp.den hq.den (by decide) (by decide) (by decide), _, _, rfl, den_gt p q, den_lt hp hq, ?_⟩
  rw [mul_form]
  exact h
theorem over_form (p q : Rat) (h : q ≠ 0) : (((p.num * q.den * (if 0 < q.num then 1 else -1) : Int)) : Rat) / ((p.den * (if q.num < 0 then -q.num else q.num) : Int) : Rat) = p / q := by
  have nz : q.num ≠ 0 := fun z => h (Rat.num_eq_zero.mp z)
  rw [← div_form p q h]
  have n1 := num_ne' q h
  have n2 := den_ne' p
  by_cases hn : 0 < q.num
  · rw [if_pos hn, if_neg (by omega), Int.mul_one]
  · rw [if_neg hn, if_pos (by omega)]
    simp only [Rat.intCast_mul, Rat.intCast_neg]
    have : ((-1 : Int) : Rat) = -1 := rfl
    grind
theorem hs_law_over_any (ds : List D) (c : Nat) (Q : D → Nat → Prop) (h : sp_law_over_any ds c Q) : t_law_over_any sp_law_fr (startR ["_law_one_so", "_law_two_so"] ds) c (fun _ c' => Q .non c') Q := by
  obtain ⟨p, q, rfl, hp, hq, hz, h⟩ := h
  have nz : q.num ≠ 0 := fun z => hz (Rat.num_eq_zero.mp z)
  have h1 : 0 < (p.den : Int) := by have := p.den_pos; omega
  have ha : 0 < (if q.num < 0 then -q.num else q.num) := by split <;> omega
  have hab : (if q.num < 0 then -q.num else q.num).natAbs < 2 ^ 4400 := by
    have := hq.1
    split
    · rw [Int.natAbs_neg]; exact this
    · exact this
  have key : sp_law_fr [D.int (p.num * ↑q.den * (if 0 < q.num then 1 else -1)), D.int (↑p.den * (if q.num < 0 then -q.num else q.num))] c Q := by
    refine ⟨_, _, rfl, Int.mul_pos h1 ha, Nat.lt_of_lt_of_le (mul_lt hp.den hab) (Nat.pow_le_pow_right (by decide) (by decide)), ?_⟩
    rw [over_form p q hz]
    exact h
  have m1 := cmul_sm hp.1 hq.den (by decide) (by decide) (by decide)
  have m2 := mul_lt hp.1 hq.den
  have m3 := cmul_sm hp.den hab (by decide) (by decide) (by decide)
  simp [t_law_over_any, startR, dCons, dVar, dNil, dBin, dC, sRet, frD, ixD, L2.atI, L2.ixN, mulD, dFnN, dIf, bT, gtD, dCall, abs1, dUn, negD]
  refine ⟨m1, ?_⟩
  split
  · rename_i hn
    rw [if_pos hn] at key
    exact ⟨cmul_sm m2 (show (1 : Int).natAbs < 2 ^ 1 by decide) (by decide) (by decide) (by decide), m3, by simpa using key⟩
  · rename_i hn
    rw [if_neg hn] at key
    exact ⟨cmul_sm m2 (show (-1 : Int).natAbs < 2 ^ 1 by decide) (by decide) (by decide) (by decide), m3, by simpa using key⟩
end Pd
end
section
set_option Elab.async false
set_option linter.all false
set_option maxRecDepth 100000
/-! PS2: rows: what the defs of the program promise. -/
namespace Pd
open Ma
def rowT (r : Row) : D := .tup (r.map frD)
def rowL (r : Row) : D := .lst (r.map frD)
theorem eqv_fr (p q : Rat) : PySem.PyData.eqv (frD p).py (frD q).py = decide (p = q) := by
  simp only [frD, D.py, D.pys, PySem.PyData.eqv, PySem.PyData.eqvAll]
  by_cases h : p = q
  · subst h; simp
  · have : ¬ (p.num = q.num ∧ p.den = q.den) := fun z => h (Rat.ext z.1 z.2)
    rw [decide_eq_false h]
    by_cases h1 : p.num = q.num
    · have h2 : ¬ p.den = q.den := fun z => this ⟨h1, z⟩
      simp [h1]
      omega
    · simp [h1]
theorem fr0 : D.tup [D.int 0, D.int 1] = frD 0 := rfl
theorem fr1 : D.tup [D.int 1, D.int 1] = frD 1 := rfl
theorem fine_fr (n : Nat) (q : Rat) : (frD q).fine (n + 1) = true := by simp [frD, D.fine, D.fines]
@[simp] theorem eqD_fr (p q : Rat) (Q : D → Prop) : eqD (frD p) (frD q) Q = Q (.bl (decide (p = q))) := by
  unfold eqD
  rw [fine_fr 59 p, fine_fr 59 q, eqv_fr]
  simp
@[simp] theorem neD_fr (p q : Rat) (Q : D → Prop) : neD (frD p) (frD q) Q = Q (.bl (!decide (p = q))) := by
  unfold neD
  rw [fine_fr 59 p, fine_fr 59 q, eqv_fr]
  simp
theorem at_map (r : Row) (i : Nat) (h : i < r.length) : L2.atI (r.map frD) ((i : Nat) : Int) = some (frD (r.getD i 0)) := by
  refine L2.atI_nat ?_
  rw [List.getElem?_map, List.getElem?_eq_getElem h]
  simp [List.getD, List.getElem?_eq_getElem h]
/-! comprehensions whose element is a function of the item -/
theorem lc_map {α : Type} {g : TGD} {te : TD} {ρ : Rho} {c : Nat} (h f : α → D) : ∀ (xs : List α) (acc : List D) (Q : List D → Nat → Prop), (∀ x ∈ xs, ∀ Q' : D → Nat → Prop, Q' (f x) c → g (h x) ρ fun ρ1 => te ρ1 c Q') → Q (acc ++ xs.map f) c → lcT g yesD te (xs.map h) ρ c acc Q
  | [], acc, Q, _, k => by simpa [lcT] using k
  | x :: xs, acc, Q, he, k => by
    have h1 := he x List.mem_cons_self (fun y c2 => lcT g yesD te (xs.map h) ρ c2 (acc ++ [y]) Q) (lc_map h f xs (acc ++ [f x]) Q (fun y hy => he y (List.mem_cons_of_mem _ hy)) (by simpa using k))
    simpa [lcT] using h1
theorem lc_filt {α : Type} {g : TGD} {tt : TTD} {te : TD} {ρ : Rho} {c : Nat} (h f : α → D) (p : α → Bool) : ∀ (xs : List α) (acc : List D) (Q : List D → Nat → Prop),
    (∀ x ∈ xs, ∀ A : Bool → Nat → Rho → Prop, (∀ ρ1, A (p x) c ρ1 → True) → (∀ ρ1 : Rho, True) → True) →
    (∀ x ∈ xs, ∀ Q' : D → Nat → Prop, ∀ N : Nat → Prop, (p x = true → Q' (f x) c) → (p x = false → N c) → g (h x) ρ fun ρ1 => tt ρ1 c fun k c1 => if k = true then te ρ1 c1 Q' else N c1) →
    Q (acc ++ (xs.filter p).map f) c → lcT g tt te (xs.map h) ρ c acc Q
  | [], acc, Q, _, _, k => by simpa [lcT] using k
  | x :: xs, acc, Q, t, he, k => by
    refine he x List.mem_cons_self _ _ (fun hp => ?_) (fun hp => ?_)
    · refine lc_filt h f p xs (acc ++ [f x]) Q (fun _ _ _ _ _ => trivial) (fun y hy => he y (List.mem_cons_of_mem _ hy)) ?_
      rw [List.filter_cons_of_pos hp] at k
      simpa using k
    · refine lc_filt h f p xs acc Q (fun _ _ _ _ _ => trivial) (fun y hy => he y (List.mem_cons_of_mem _ hy)) ?_
      rw [List.filter_cons_of_neg (by simp [hp])] at k
      exact k
theorem zipD_map {α β : Type} (f : α → D) (g : β → D) : ∀ (xs : List α) (ys : List β), zipD (xs.map f) (ys.map g) = (xs.zip ys).map fun p => D.tup [f p.1, g p.2]
  | [], _ => by simp [zipD]
  | _ :: _, [] => by simp [zipD]
  | x :: xs, y :: ys => by simp [zipD, zipD_map f g xs ys]
theorem ivs_map (a b : Int) : ivs a b = ((List.range (b - a).toNat).map fun i => a + (i : Nat)).map D.int := by
  unfold ivs
  rw [List.map_map]
  rfl
def t_cells_plus (sp_part_plus : SpD) : TSD := (sRet (dCall tuple1 (dCons (dLc (iZipD (dCons (dVar 0) (dCons (dVar 1) dNil))) (gT 2 (gsCons (gN 2) (gsCons (gN 3) gsNil))) yesD (dFnN 2 sp_part_plus (dCons (dVar 2) (dCons (dVar 3) dNil))) [2, 3]) dNil)))
def t_cells_times (sp_part_times : SpD) : TSD := (sRet (dCall tuple1 (dCons (dLc (iSeq (dVar 0)) (gN 2) yesD (dFnN 2 sp_part_times (dCons (dVar 2) (dCons (dVar 1) dNil))) [2]) dNil)))
def t_cells_none : TSD := (sRet (dBin repD (dTup (dCons (dC (.tup [.int 0, .int 1])) dNil)) (dVar 0)))
def t_are_none : TSD := (sRet (dCall allL (dCons (dLc (iSeq (dVar 0)) (gN 1) yesD (dBin eqD (dVar 1) (dC (.tup [.int 0, .int 1]))) [1]) dNil)))
def t_unit_row : TSD := (sRet (dCall tuple1 (dCons (dLc (iRange1 (dCons (dVar 0) dNil)) (gN 2) yesD (dIf (bT (dBin eqD (dVar 2) (dVar 1))) (dC (.tup [.int 1, .int 1])) (dC (.tup [.int 0, .int 1]))) [2]) dNil)))
def t_lead_of : TSD := (sSeq (sSet .va 1 (dC (.int 0)))
  (sSeq (sWh (bT (dBin eqD (dBin ixD (dVar 0) (dVar 1)) (dC (.tup [.int 0, .int 1])))) (sAug 1 (dC (.int 1)) (fun i j => i + j)))
  (sRet (dVar 1))))
def t_lessened_by (sp_lead_of sp_cells_plus sp_cells_times sp_part_minus : SpD) : TSD := (sSeq (sFor (iSeq (dVar 0)) (gN 2) (sSeq (sSet .va 3 (dBin ixD (dVar 1) (dFnN 1 sp_lead_of (dCons (dVar 2) dNil))))
  (sIf (bT (dBin neD (dVar 3) (dC (.tup [.int 0, .int 1])))) (sSet .va 1 (dFnN 2 sp_cells_plus (dCons (dVar 1) (dCons (dFnN 2 sp_cells_times (dCons (dVar 2) (dCons (dFnN 1 sp_part_minus (dCons (dVar 3) dNil)) dNil))) dNil)))) sSkip)))
  (sRet (dVar 1)))
def t_weighed (sp_cells_none sp_cells_plus sp_cells_times : SpD) : TSD := (sSeq (sSet .va 3 (dFnN 1 sp_cells_none (dCons (dVar 2) dNil)))
  (sSeq (sFor (iZipD (dCons (dVar 0) (dCons (dVar 1) dNil))) (gT 2 (gsCons (gN 4) (gsCons (gN 5) gsNil))) (sSet .va 3 (dFnN 2 sp_cells_plus (dCons (dVar 3) (dCons (dFnN 2 sp_cells_times (dCons (dVar 5) (dCons (dVar 4) dNil))) dNil)))))
  (sRet (dVar 3))))
def sp_cells_plus : SpD := fun ds c Q => ∃ r s : Row, ds = [rowT r, rowT s] ∧ r.length ≤ 1000 ∧ Sms r ∧ Sms s ∧ Q (rowT (addR r s)) c
def sp_cells_times : SpD := fun ds c Q => ∃ (r : Row) (k : Rat), ds = [rowT r, frD k] ∧ r.length ≤ 1000 ∧ Sms r ∧ Sm k ∧ Q (rowT (scR r k)) c
def sp_cells_none : SpD := fun ds c Q => ∃ n : Nat, ds = [.int n] ∧ n ≤ 1000 ∧ Q (rowT (List.replicate n 0)) c
def sp_are_none : SpD := fun ds c Q => ∃ r : Row, ds = [rowT r] ∧ r.length ≤ 1000 ∧ Q (.bl (isZ r)) c
def sp_unit_row : SpD := fun ds c Q => ∃ n p : Nat, ds = [.int n, .int p] ∧ n ≤ 1000 ∧ Q (rowT (unitR n p)) c
def sp_lead_of : SpD := fun ds c Q => ∃ r : Row, ds = [rowT r] ∧ isZ r = false ∧ Q (.int (lead r : Nat)) c
theorem mem_zip {r s : Row} {p : Rat × Rat} (h : p ∈ r.zip s) : p.1 ∈ r ∧ p.2 ∈ s := by
  obtain ⟨a, b⟩ := p
  exact List.of_mem_zip h
theorem hs_cells_plus (ds : List D) (c : Nat) (Q : D → Nat → Prop) (h : sp_cells_plus ds c Q) : t_cells_plus sp_part_plus (startR ["row", "other", "near", "far"] ds) c (fun _ c' => Q .non c') Q := by
  obtain ⟨r, s, rfl, hl, hr, hs, h⟩ := h
  simp [t_cells_plus, rowT, zipD_map]
  refine ⟨by omega, lc_map _ (fun p => frD (p.1 + p.2)) _ _ _ (fun p hp Q' q => ?_) ?_⟩
  · obtain ⟨h1, h2⟩ := mem_zip hp
    simp
    exact ⟨p.1, p.2, rfl, hr _ h1, hs _ h2, q⟩
  · simp
    have e : (r.zip s).map (fun p => frD (p.1 + p.2)) = (addR r s).map frD := by
      unfold addR
      rw [List.map_zipWith, List.zip, List.map_zipWith]
    rw [e]
    exact h
theorem hs_cells_times (ds : List D) (c : Nat) (Q : D → Nat → Prop) (h : sp_cells_times ds c Q) : t_cells_times sp_part_times (startR ["row", "much", "part"] ds) c (fun _ c' => Q .non c') Q := by
  obtain ⟨r, k, rfl, hl, hr, hk, h⟩ := h
  simp [t_cells_times, rowT]
  refine ⟨by omega, lc_map _ (fun x => frD (x * k)) _ _ _ (fun x hx Q' q => ?_) ?_⟩
  · simp
    exact ⟨x, k, rfl, hr _ hx, hk, q⟩
  · simp
    have e : r.map (fun x => frD (x * k)) = (scR r k).map frD := by
      unfold scR
      rw [List.map_map]
      rfl
    rw [e]
    exact h
theorem flat_rep (n : Nat) (d : D) : (List.replicate n [d]).flatten = List.replicate n d := by
  induction n with
  | zero => rfl
  | succ n ih => rw [List.replicate_succ, List.replicate_succ, List.flatten_cons, ih]; rfl
theorem hs_cells_none (ds : List D) (c : Nat) (Q : D → Nat → Prop) (h : sp_cells_none ds c Q) : t_cells_none (startR ["size"] ds) c (fun _ c' => Q .non c') Q := by
  obtain ⟨n, rfl, hl, h⟩ := h
  simp [t_cells_none]
  refine ⟨by omega, ?_⟩
  rw [show D.tup [D.int 0, D.int 1] = frD 0 from rfl]
  first
    | (rw [flat_rep]; simpa [rowT] using h)
    | simpa [rowT] using h
theorem hs_are_none (ds : List D) (c : Nat) (Q : D → Nat → Prop) (h : sp_are_none ds c Q) : t_are_none (startR ["row", "part"] ds) c (fun _ c' => Q .non c') Q := by
  obtain ⟨r, rfl, hl, h⟩ := h
  simp [t_are_none, rowT, -eqD]
  refine ⟨by omega, lc_map _ (fun x => D.bl (decide (x = 0))) _ _ _ (fun x hx Q' q => ?_) ?_⟩
  · simp [fr0, -eqD, -D.tup.injEq]
    exact q
  · refine ⟨r.map fun x => decide (x = 0), by simp, ?_⟩
    have e : (r.map fun x => decide (x = 0)).all id = isZ r := by
      unfold isZ
      rw [List.all_map]
      rfl
    rw [e]
    exact h
theorem hs_unit_row (ds : List D) (c : Nat) (Q : D → Nat → Prop) (h : sp_unit_row ds c Q) : t_unit_row (startR ["long", "place", "own"] ds) c (fun _ c' => Q .non c') Q := by
  obtain ⟨n, p, rfl, hl, h⟩ := h
  simp [t_unit_row, ivs, D.fine, D.py, PySem.PyData.eqv]
  refine ⟨by omega, by omega, lc_map _ (fun i => frD (if i = p then 1 else 0)) _ _ _ (fun x hx Q' q => ?_) ?_⟩
  · by_cases hxp : x = p
    · subst hxp
      simpa [frD] using q
    · have : ¬ (x : Int) = (p : Int) := by omega
      simpa [hxp, this, frD] using q
  · simp
    unfold rowT unitR at h
    rw [List.map_map] at h
    exact h
theorem lead_loop (N : Rho → Nat → Prop) (R : D → Nat → Prop) (c : Nat) (r : Row) (hz : isZ r = false) (h : N [.va (rowT r), .va (.int (lead r : Nat))] c) : ∀ (n i : Nat), i ≤ lead r → lead r < i + n →
    whT (bT (dBin eqD (dBin ixD (dVar 0) (dVar 1)) (dC (.tup [.int 0, .int 1])))) (sAug 1 (dC (.int 1)) (fun i j => i + j)) n [.va (rowT r), .va (.int (i : Nat))] c N R := by
  intro n
  induction n with
  | zero => intro i h1 h2; omega
  | succ n ih =>
    intro i h1 h2
    have hl := lead_lt hz
    have e := at_map r i (by omega)
    simp only [whT, bT, dBin, dVar, dC, List.getElem?_cons_zero, List.getElem?_cons_succ, Option.some.injEq, Sl.va.injEq, exists_eq_left', rowT, ixD, e, fr0, eqD_fr]
    refine ⟨_, rfl, ?_⟩
    by_cases hi : i = lead r
    · subst hi
      rw [decide_eq_false (lead_get hz)]
      simpa [rowT] using h
    · rw [decide_eq_true (lead_before (by omega))]
      simp
      have := ih (i + 1) (by omega) (by omega)
      simpa [rowT, fr0] using this
theorem hs_lead_of (ds : List D) (c : Nat) (Q : D → Nat → Prop) (h : sp_lead_of ds c Q) : t_lead_of (startR ["row", "place"] ds) c (fun _ c' => Q .non c') Q := by
  obtain ⟨r, rfl, hz, h⟩ := h
  simp only [t_lead_of, startR, sSeq, sSet, dC, sWh, Kd.sl, List.map, List.length, List.replicate, List.append, List.set]
  refine ⟨lead r + 1, lead_loop _ _ c r hz ?_ _ 0 (by omega) (by omega)⟩
  simpa using h
def rowsL (rs : List Row) : D := .lst (rs.map rowT)
def rowsT (rs : List Row) : D := .tup (rs.map rowT)
def sp_lessened_by : SpD := fun ds c Q => ∃ (fs : List Row) (r : Row), ds = [rowsL fs, rowT r] ∧ r.length ≤ 1000 ∧ LOk fs r ∧ Q (rowT (lessen fs r)) c
theorem getD_mem {r : Row} {i : Nat} (h : i < r.length) : r.getD i 0 ∈ r := by
  rw [List.getD, List.getElem?_eq_getElem h]
  exact List.getElem_mem h
theorem less_loop (N : Rho → Nat → Prop) (R : D → Nat → Prop) (c : Nat) (x0 : D) : ∀ (fs : List Row) (r : Row) (s2 s3 : Sl), r.length ≤ 1000 → LOk fs r → (∀ s2 s3, N [.va x0, .va (rowT (lessen fs r)), s2, s3] c) →
    forT (gN 2) (sSeq (sSet .va 3 (dBin ixD (dVar 1) (dFnN 1 sp_lead_of (dCons (dVar 2) dNil))))
      (sIf (bT (dBin neD (dVar 3) (dC (.tup [.int 0, .int 1])))) (sSet .va 1 (dFnN 2 sp_cells_plus (dCons (dVar 1) (dCons (dFnN 2 sp_cells_times (dCons (dVar 2) (dCons (dFnN 1 sp_part_minus (dCons (dVar 3) dNil)) dNil))) dNil)))) sSkip)) (fs.map rowT) [.va x0, .va (rowT r), s2, s3] c N R := by
  intro fs
  induction fs with
  | nil => intro r s2 s3 _ _ h; exact h s2 s3
  | cons f fs ih =>
    intro r s2 s3 hl ok h
    obtain ⟨hz, hlen, hf, hr, hm, ok⟩ := ok
    have hl2 := lead_lt hz
    have e := at_map r (lead f) (by omega)
    have hsm : Sm (r.getD (lead f) 0) := hr _ (getD_mem (by omega))
    simp only [List.map, forT, gN, sSeq, sSet, dBin, dVar, dFnN, dCons, dNil, List.set, List.getElem?_cons_zero, List.getElem?_cons_succ, Option.some.injEq, Sl.va.injEq, exists_eq_left', List.length, Kd.sl]
    refine ⟨by trivial, f, rfl, hz, ?_⟩
    simp only [rowT, ixD]
    refine ⟨_, e, ?_⟩
    simp only [sIf, bT, dBin, dVar, dC, List.getElem?_cons_zero, List.getElem?_cons_succ, Option.some.injEq, Sl.va.injEq, exists_eq_left', fr0, neD_fr]
    refine ⟨_, rfl, ?_⟩
    by_cases h0 : r.getD (lead f) 0 = 0
    · rw [if_pos h0] at ok
      rw [decide_eq_true h0]
      simp only [Bool.not_true, Bool.false_eq_true, if_false, sSkip]
      have h' : ∀ s2 s3, N [.va x0, .va (rowT (lessen fs r)), s2, s3] c := fun s2 s3 => by
        have := h s2 s3
        unfold lessen at this
        rw [if_pos h0] at this
        exact this
      exact ih r _ _ hl ok h'
    · rw [if_neg h0] at ok
      rw [decide_eq_false h0]
      simp only [Bool.not_false, if_true, sSet, dFnN, dCons, dNil, dVar, List.getElem?_cons_zero, List.getElem?_cons_succ, Option.some.injEq, Sl.va.injEq, exists_eq_left', List.length, Kd.sl, List.set]
      refine ⟨by trivial, _, rfl, by trivial, f, _, rfl, by omega, hf, hsm.neg, by trivial, r, _, rfl, hl, hr, hm, ?_⟩
      refine ih _ _ _ ?_ ok ?_
      · rw [addR_len _ _ (by rw [scR_len, hlen])]; exact hl
      · intro s2 s3
        have := h s2 s3
        unfold lessen at this
        rw [if_neg h0] at this
        exact this
theorem hs_lessened_by (ds : List D) (c : Nat) (Q : D → Nat → Prop) (h : sp_lessened_by ds c Q) : t_lessened_by sp_lead_of sp_cells_plus sp_cells_times sp_part_minus (startR ["rows", "row", "own", "much"] ds) c (fun _ c' => Q .non c') Q := by
  obtain ⟨fs, r, rfl, hl, ok, h⟩ := h
  have := less_loop (fun ρ c => sRet (dVar 1) ρ c (fun _ c' => Q .non c') Q) Q c (rowsL fs) fs r .no .no hl ok (fun s2 s3 => by simpa using h)
  simpa [t_lessened_by, rowsL] using this
end Pd
end
section
set_option Elab.async false
set_option linter.all false
set_option maxRecDepth 100000
/-! PS3: weights on rows; reduced rows. -/
namespace Pd
open Ma
def t_reduced_rows (sp_lessened_by sp_are_none sp_cells_times sp_part_over sp_lead_of : SpD) : TSD := (sSeq (sSet .va 1 (dLst dNil))
  (sSeq (sFor (iSeq (dVar 0)) (gN 2) (sSeq (sSet .va 3 (dFnN 2 sp_lessened_by (dCons (dVar 1) (dCons (dVar 2) dNil))))
  (sIf (dNot (bT (dFnN 1 sp_are_none (dCons (dVar 3) dNil)))) (sSeq (sSet .va 3 (dFnN 2 sp_cells_times (dCons (dVar 3) (dCons (dFnN 2 sp_part_over (dCons (dC (.tup [.int 1, .int 1])) (dCons (dBin ixD (dVar 3) (dFnN 1 sp_lead_of (dCons (dVar 3) dNil))) dNil))) dNil))))
  (sSet .va 1 (dBin addD (dLc (iSeq (dVar 1)) (gN 4) yesD (dFnN 2 sp_lessened_by (dCons (dLst (dCons (dVar 3) dNil)) (dCons (dVar 4) dNil))) [4]) (dLst (dCons (dVar 3) dNil))))) sSkip)))
  (sRet (dCall tuple1 (dCons (dCall (sortkD sp_lead_of) (dCons (dVar 1) dNil)) dNil)))))
def WOk : Row → List Row → Row → Prop
  | w :: ws, r :: rs, acc => Sm w ∧ Sms r ∧ Sms acc ∧ Sms (scR r w) ∧ r.length = acc.length ∧ WOk ws rs (addR acc (scR r w))
  | _, _, _ => True
def sp_weighed : SpD := fun ds c Q => ∃ (ws : Row) (rs : List Row) (n : Nat), ds = [rowT ws, rowsT rs, .int n] ∧ ws.length ≤ 1000 ∧ n ≤ 1000 ∧ WOk ws rs (List.replicate n 0) ∧ Q (rowT (weighF ws rs (List.replicate n 0))) c
theorem weigh_loop (N : Rho → Nat → Prop) (R : D → Nat → Prop) (c : Nat) (x0 x1 x2 : D) : ∀ (ws : Row) (rs : List Row) (acc : Row) (s4 s5 : Sl), acc.length ≤ 1000 → WOk ws rs acc → (∀ s4 s5, N [.va x0, .va x1, .va x2, .va (rowT (weighF ws rs acc)), s4, s5] c) →
    forT (gT 2 (gsCons (gN 4) (gsCons (gN 5) gsNil))) (sSet .va 3 (dFnN 2 sp_cells_plus (dCons (dVar 3) (dCons (dFnN 2 sp_cells_times (dCons (dVar 5) (dCons (dVar 4) dNil))) dNil)))) (zipD (ws.map frD) (rs.map rowT)) [.va x0, .va x1, .va x2, .va (rowT acc), s4, s5] c N R
  | [], _, acc, s4, s5, _, _, h => by simpa [zipD, forT, weighF] using h s4 s5
  | _ :: _, [], acc, s4, s5, _, _, h => by simpa [zipD, forT, weighF] using h s4 s5
  | w :: ws, r :: rs, acc, s4, s5, hl, ok, h => by
    obtain ⟨h1, h2, h3, h4, h5, ok⟩ := ok
    have hll : (scR r w).length = r.length := scR_len r w
    simp only [List.map_cons, zipD, forT, gT, gsCons, gsNil, gN, List.length_cons, List.length_nil, sSet, dFnN, dCons, dNil, dVar, Kd.sl, List.set, List.getElem?_cons_zero, List.getElem?_cons_succ, Option.some.injEq, Sl.va.injEq, exists_eq_left']
    refine ⟨by trivial, by trivial, r, w, rfl, by omega, h2, h1, by trivial, acc, scR r w, rfl, hl, h3, h4, ?_⟩
    exact weigh_loop N R c x0 x1 x2 ws rs _ _ _ (by rw [addR_len _ _ (by omega)]; exact hl) ok (fun s4 s5 => h s4 s5)
theorem hs_weighed (ds : List D) (c : Nat) (Q : D → Nat → Prop) (h : sp_weighed ds c Q) : t_weighed sp_cells_none sp_cells_plus sp_cells_times (startR ["weights", "rows", "size", "found", "part", "row"] ds) c (fun _ c' => Q .non c') Q := by
  obtain ⟨ws, rs, n, rfl, hl, hn, ok, h⟩ := h
  have := weigh_loop (fun ρ c => sRet (dVar 3) ρ c (fun _ c' => Q .non c') Q) Q c (rowT ws) (rowsT rs) (.int n) ws rs (List.replicate n 0) .no .no (by simpa using hn) ok (fun s4 s5 => by simpa using h)
  simp [t_weighed]
  refine ⟨n, rfl, hn, ?_⟩
  simpa [rowT, rowsT] using this
theorem frD_inj {p q : Rat} (h : frD p = frD q) : p = q := by
  simp only [frD, D.tup.injEq, List.cons.injEq, D.int.injEq, and_true] at h
  exact Rat.ext h.1 (by omega)
theorem rowT_inj : ∀ {r s : Row}, rowT r = rowT s → r = s
  | [], [], _ => rfl
  | [], _ :: _, h => by simp [rowT] at h
  | _ :: _, [], h => by simp [rowT] at h
  | x :: r, y :: s, h => by
    simp only [rowT, List.map_cons, D.tup.injEq, List.cons.injEq] at h
    rw [frD_inj h.1, rowT_inj (r := r) (s := s) (by simp only [rowT, h.2])]
open Classical in
noncomputable def leadK (d : D) : Int := if h : ∃ r, d = rowT r then (lead (Classical.choose h) : Nat) else 0
theorem leadK_eq (r : Row) : leadK (rowT r) = (lead r : Nat) := by
  have h : ∃ s, rowT r = rowT s := ⟨r, rfl⟩
  have : leadK (rowT r) = (lead (Classical.choose h) : Nat) := by unfold leadK; rw [dif_pos h]
  rw [this, ← rowT_inj (Classical.choose_spec h)]
def sp_reduced_rows : SpD := fun ds c Q => ∃ (rows : List Row) (n : Nat), (ds = [rowsT rows] ∨ ds = [rowsL rows]) ∧ n ≤ 1000 ∧ rows.length ≤ 1000 ∧ (∀ r ∈ rows, r.length = n) ∧ ROk [] rows ∧ ∀ l, l.Perm (redF rows) → Q (rowsT l) c
theorem sm1 : Sm 1 := ⟨Nat.one_lt_two_pow (by decide), Nat.one_lt_two_pow (by decide)⟩
theorem red_loop {n : Nat} (hn : n ≤ 1000) (N : Rho → Nat → Prop) (R : D → Nat → Prop) (c : Nat) (x0 : D) : ∀ (rows fs : List Row) (s2 s3 s4 : Sl), Rd n fs → (∀ r ∈ rows, r.length = n) → fs.length + rows.length ≤ 1000 → ROk fs rows → (∀ s2 s3 s4, N [.va x0, .va (rowsL (rows.foldl redStep fs)), s2, s3, s4] c) →
    forT (gN 2) (sSeq (sSet .va 3 (dFnN 2 sp_lessened_by (dCons (dVar 1) (dCons (dVar 2) dNil))))
  (sIf (dNot (bT (dFnN 1 sp_are_none (dCons (dVar 3) dNil)))) (sSeq (sSet .va 3 (dFnN 2 sp_cells_times (dCons (dVar 3) (dCons (dFnN 2 sp_part_over (dCons (dC (.tup [.int 1, .int 1])) (dCons (dBin ixD (dVar 3) (dFnN 1 sp_lead_of (dCons (dVar 3) dNil))) dNil))) dNil))))
  (sSet .va 1 (dBin addD (dLc (iSeq (dVar 1)) (gN 4) yesD (dFnN 2 sp_lessened_by (dCons (dLst (dCons (dVar 3) dNil)) (dCons (dVar 4) dNil))) [4]) (dLst (dCons (dVar 3) dNil))))) sSkip)) (rows.map rowT) [.va x0, .va (rowsL fs), s2, s3, s4] c N R
  | [], fs, s2, s3, s4, _, _, _, _, h => h s2 s3 s4
  | r :: rows, fs, s2, s3, s4, Rf, hl, hk, ok, h => by
    obtain ⟨⟨ok1, ok2⟩, ok⟩ := ok
    have hr := hl r List.mem_cons_self
    have lo := lessen_len fs r n hr Rf.len
    have sl := step_len fs r
    have R2 := rd_step Rf hr
    have nw : isZ (lessen fs r) = false → New n fs (scR (lessen fs r) (1 / (lessen fs r).getD (lead (lessen fs r)) 0)) := new_of Rf hr
    simp only [List.length_cons] at hk
    have hk' : (redStep fs r).length + rows.length ≤ 1000 := by
      rw [sl]
      split <;> omega
    have ih := fun s2 s3 s4 => red_loop hn N R c x0 rows (redStep fs r) s2 s3 s4 R2 (fun q hq => hl q (List.mem_cons_of_mem _ hq)) hk' ok h
    simp only [List.map, forT, gN, sSeq, sSet, dFnN, dCons, dNil, dVar, Kd.sl, List.set, List.getElem?_cons_zero, List.getElem?_cons_succ, Option.some.injEq, Sl.va.injEq, exists_eq_left', List.length]
    refine ⟨by trivial, fs, r, rfl, by omega, ok1, ?_⟩
    simp only [sIf, dNot, bT, dFnN, dCons, dNil, dVar, List.getElem?_cons_zero, List.getElem?_cons_succ, Option.some.injEq, Sl.va.injEq, exists_eq_left', List.length]
    refine ⟨by trivial, lessen fs r, rfl, by omega, _, rfl, ?_⟩
    have e1 : isZ (lessen fs r) = true → redStep fs r = fs := by
      intro hz; unfold redStep; rw [if_pos hz]
    have e2 : isZ (lessen fs r) = false → redStep fs r = fs.map (fun f => lessen [scR (lessen fs r) (1 / (lessen fs r).getD (lead (lessen fs r)) 0)] f) ++ [scR (lessen fs r) (1 / (lessen fs r).getD (lead (lessen fs r)) 0)] := by
      intro hz; unfold redStep; simp [hz]
    generalize redStep fs r = fs' at *
    generalize lessen fs r = o at *
    by_cases hz : isZ o = true
    · rw [e1 hz] at ih
      rw [hz]
      simpa [sSkip] using ih _ _ _
    · have hz' : isZ o = false := by simpa using hz
      obtain ⟨k1, k2, k3, k4⟩ := ok2 hz'
      have NN := nw hz'
      rw [e2 hz'] at ih
      rw [hz']
      simp only [Bool.not_false, if_true, sSeq, sSet, dFnN, dCons, dNil, dVar, dC, dBin, List.getElem?_cons_zero, List.getElem?_cons_succ, Option.some.injEq, Sl.va.injEq, exists_eq_left', List.length, Kd.sl, List.set]
      have e := at_map o (lead o) (by have := lead_lt hz'; omega)
      refine ⟨by trivial, o, rfl, hz', ?_⟩
      simp only [rowT, ixD]
      refine ⟨_, e, by trivial, 1, o.getD (lead o) 0, rfl, sm1, k2, lead_get hz', by trivial, o, _, rfl, by omega, k1, k3, ?_⟩
      generalize scR o (1 / o.getD (lead o) 0) = o' at *
      simp [rowsL, -List.map_append]
      refine ⟨by omega, lc_map _ (fun f => rowT (lessen [o'] f)) _ _ _ (fun f hf Q' q => ?_) ?_⟩
      · simp
        exact ⟨[o'], f, by simp [rowsL], by rw [Rf.len f hf]; exact hn, k4 f hf, q⟩
      · simp
        have := ih (.va (rowT r)) (.va (rowT o')) s4
        refine ⟨by omega, ?_⟩
        simpa [rowsL, rowT, Function.comp_def] using this
theorem hs_reduced_rows (ds : List D) (c : Nat) (Q : D → Nat → Prop) (h : sp_reduced_rows ds c Q) : t_reduced_rows sp_lessened_by sp_are_none sp_cells_times sp_part_over sp_lead_of (startR ["rows", "found", "row", "own", "other"] ds) c (fun _ c' => Q .non c') Q := by
  obtain ⟨rows, n, hd, hn, hk, hl, ok, h⟩ := h
  have R := rd_fold rows [] (rd_nil n) hl
  have len : (redF rows).length ≤ 1000 := by
    have key : ∀ (rs fs : List Row), (rs.foldl redStep fs).length ≤ fs.length + rs.length := by
      intro rs
      induction rs with
      | nil => intro fs; simp
      | cons r rs ih =>
        intro fs
        have := ih (redStep fs r)
        have sl := step_len fs r
        simp only [List.foldl_cons, List.length_cons]
        have : (redStep fs r).length ≤ fs.length + 1 := by rw [sl]; split <;> omega
        omega
    have := key rows []
    simp at this
    unfold redF
    omega
  have fin : ∀ x0 s2 s3 s4, sRet (dCall tuple1 (dCons (dCall (sortkD sp_lead_of) (dCons (dVar 1) dNil)) dNil)) [.va x0, .va (rowsL (redF rows)), s2, s3, s4] c (fun _ c' => Q .non c') Q := fun x0 s2 s3 s4 => by
    simp only [sRet, dCall, dCons, dNil, dVar, List.getElem?_cons_zero, List.getElem?_cons_succ, Option.some.injEq, Sl.va.injEq, exists_eq_left']
    refine ⟨(redF rows).map rowT, leadK, rfl, by simpa using len, fun d hd c P hP => ?_, fun l' hl' => ?_⟩
    · obtain ⟨f, hf, rfl⟩ := List.mem_map.mp hd
      rw [leadK_eq] at hP
      exact ⟨f, rfl, R.1.nz f hf, hP⟩
    · obtain ⟨l2, p2, e2⟩ := L2.perm_lift rowT hl' (redF rows) rfl
      subst e2
      simpa [rowsT] using h l2 p2
  rcases hd with rfl | rfl
  · have := red_loop hn (fun ρ c => sRet (dCall tuple1 (dCons (dCall (sortkD sp_lead_of) (dCons (dVar 1) dNil)) dNil)) ρ c (fun _ c' => Q .non c') Q) Q c (rowsT rows) rows [] .no .no .no (rd_nil n) hl (by simpa using hk) ok (fun s2 s3 s4 => fin _ s2 s3 s4)
    simpa [t_reduced_rows, rowsL, rowsT, -sortkD] using this
  · have := red_loop hn (fun ρ c => sRet (dCall tuple1 (dCons (dCall (sortkD sp_lead_of) (dCons (dVar 1) dNil)) dNil)) ρ c (fun _ c' => Q .non c') Q) Q c (rowsL rows) rows [] .no .no .no (rd_nil n) hl (by simpa using hk) ok (fun s2 s3 s4 => fin _ s2 s3 s4)
    simpa [t_reduced_rows, rowsL, rowsT, -sortkD] using this
end Pd
end
section
set_option Elab.async false
set_option linter.all false
set_option maxRecDepth 100000
/-! PS4: tupled, lists, same. -/
namespace Pd
open Ma L2
def t_tupled (sp_tupled : SpD) : TSD := (sRet (dIf (bT (dUn (isiD ["list", "tuple"]) (dVar 0))) (dCall tuple1 (dCons (dLc (iSeq (dVar 0)) (gN 1) yesD (dFnN 1 sp_tupled (dCons (dVar 1) dNil)) [1]) dNil)) (dVar 0)))
def t_law_lists (sp_law_lists : SpD) : TSD := (sRet (dIf (bT (dUn (isiD ["list", "tuple"]) (dVar 0))) (dLc (iSeq (dVar 0)) (gN 1) yesD (dFnN 1 sp_law_lists (dCons (dVar 1) dNil)) [1]) (dVar 0)))
def t_law_same (sp_law_same : SpD) : TSD := (sSeq (sIf (bT (dUn (isiD ["list", "tuple"]) (dVar 1))) (sSeq (sIf (dOr (bT (dBin neD (dUn (isiD ["list"]) (dVar 0)) (dUn (isiD ["list"]) (dVar 1)))) (bT (dBin neD (dUn (isiD ["tuple"]) (dVar 0)) (dUn (isiD ["tuple"]) (dVar 1))))) (sRet (dC (.bl false))) sSkip)
  (sRet (vAnd (dBin eqD (dCall len1 (dCons (dVar 0) dNil)) (dCall len1 (dCons (dVar 1) dNil))) (dCall allL (dCons (dLc (iZipD (dCons (dVar 0) (dCons (dVar 1) dNil))) (gT 2 (gsCons (gN 2) (gsCons (gN 3) gsNil))) yesD (dFnN 2 sp_law_same (dCons (dVar 2) (dCons (dVar 3) dNil))) [2, 3]) dNil))))) sSkip)
  (sSeq (sIf (dOr (bT (dUn isND (dVar 1))) (bT (dUn (isiD ["bool", "str"]) (dVar 1)))) (sRet (vAnd (dBin eqD (dVar 0) (dVar 1)) (vAnd (dBin eqD (dUn (isiD ["bool"]) (dVar 0)) (dUn (isiD ["bool"]) (dVar 1))) (dBin eqD (dUn isND (dVar 0)) (dUn isND (dVar 1)))))) sSkip)
  (sRet (vAnd (dUn (isiD ["int"]) (dVar 0)) (vAnd (vNot (dUn (isiD ["bool"]) (dVar 0))) (dBin eqD (dVar 0) (dVar 1)))))))
@[simp] theorem isi_lt_tup (l : List D) : isiB ["list", "tuple"] (.tup l) = true := by show ((["list", "tuple"] : List String).any fun t => kitB "tuple" t == some true) = true; decide +kernel
@[simp] theorem isi_lt_lst (l : List D) : isiB ["list", "tuple"] (.lst l) = true := by show ((["list", "tuple"] : List String).any fun t => kitB "list" t == some true) = true; decide +kernel
@[simp] theorem isi_lt_int (l : Int) : isiB ["list", "tuple"] (.int l) = false := by show ((["list", "tuple"] : List String).any fun t => kitB "int" t == some true) = false; decide +kernel
@[simp] theorem isi_lt_bl (l : Bool) : isiB ["list", "tuple"] (.bl l) = false := by show ((["list", "tuple"] : List String).any fun t => kitB "bool" t == some true) = false; decide +kernel
@[simp] theorem isi_lt_non : isiB ["list", "tuple"] .non = false := by show ((["list", "tuple"] : List String).any fun t => kitB "NoneType" t == some true) = false; decide +kernel
@[simp] theorem isi_l_tup (l : List D) : isiB ["list"] (.tup l) = false := by show ((["list"] : List String).any fun t => kitB "tuple" t == some true) = false; decide +kernel
@[simp] theorem isi_l_lst (l : List D) : isiB ["list"] (.lst l) = true := by show ((["list"] : List String).any fun t => kitB "list" t == some true) = true; decide +kernel
@[simp] theorem isi_l_int (l : Int) : isiB ["list"] (.int l) = false := by show ((["list"] : List String).any fun t => kitB "int" t == some true) = false; decide +kernel
@[simp] theorem isi_l_bl (l : Bool) : isiB ["list"] (.bl l) = false := by show ((["list"] : List String).any fun t => kitB "bool" t == some true) = false; decide +kernel
@[simp] theorem isi_l_non : isiB ["list"] .non = false := by show ((["list"] : List String).any fun t => kitB "NoneType" t == some true) = false; decide +kernel
@[simp] theorem isi_t_tup (l : List D) : isiB ["tuple"] (.tup l) = true := by show ((["tuple"] : List String).any fun t => kitB "tuple" t == some true) = true; decide +kernel
@[simp] theorem isi_t_lst (l : List D) : isiB ["tuple"] (.lst l) = false := by show ((["tuple"] : List String).any fun t => kitB "list" t == some true) = false; decide +kernel
@[simp] theorem isi_t_int (l : Int) : isiB ["tuple"] (.int l) = false := by show ((["tuple"] : List String).any fun t => kitB "int" t == some true) = false; decide +kernel
@[simp] theorem isi_t_bl (l : Bool) : isiB ["tuple"] (.bl l) = false := by show ((["tuple"] : List String).any fun t => kitB "bool" t == some true) = false; decide +kernel
@[simp] theorem isi_t_non : isiB ["tuple"] .non = false := by show ((["tuple"] : List String).any fun t => kitB "NoneType" t == some true) = false; decide +kernel
@[simp] theorem isi_b_tup (l : List D) : isiB ["bool"] (.tup l) = false := by show ((["bool"] : List String).any fun t => kitB "tuple" t == some true) = false; decide +kernel
@[simp] theorem isi_b_lst (l : List D) : isiB ["bool"] (.lst l) = false := by show ((["bool"] : List String).any fun t => kitB "list" t == some true) = false; decide +kernel
@[simp] theorem isi_b_int (l : Int) : isiB ["bool"] (.int l) = false := by show ((["bool"] : List String).any fun t => kitB "int" t == some true) = false; decide +kernel
@[simp] theorem isi_b_bl (l : Bool) : isiB ["bool"] (.bl l) = true := by show ((["bool"] : List String).any fun t => kitB "bool" t == some true) = true; decide +kernel
@[simp] theorem isi_b_non : isiB ["bool"] .non = false := by show ((["bool"] : List String).any fun t => kitB "NoneType" t == some true) = false; decide +kernel
@[simp] theorem isi_bs_tup (l : List D) : isiB ["bool", "str"] (.tup l) = false := by show ((["bool", "str"] : List String).any fun t => kitB "tuple" t == some true) = false; decide +kernel
@[simp] theorem isi_bs_lst (l : List D) : isiB ["bool", "str"] (.lst l) = false := by show ((["bool", "str"] : List String).any fun t => kitB "list" t == some true) = false; decide +kernel
@[simp] theorem isi_bs_int (l : Int) : isiB ["bool", "str"] (.int l) = false := by show ((["bool", "str"] : List String).any fun t => kitB "int" t == some true) = false; decide +kernel
@[simp] theorem isi_bs_bl (l : Bool) : isiB ["bool", "str"] (.bl l) = true := by show ((["bool", "str"] : List String).any fun t => kitB "bool" t == some true) = true; decide +kernel
@[simp] theorem isi_bs_non : isiB ["bool", "str"] .non = false := by show ((["bool", "str"] : List String).any fun t => kitB "NoneType" t == some true) = false; decide +kernel
@[simp] theorem isi_i_tup (l : List D) : isiB ["int"] (.tup l) = false := by show ((["int"] : List String).any fun t => kitB "tuple" t == some true) = false; decide +kernel
@[simp] theorem isi_i_lst (l : List D) : isiB ["int"] (.lst l) = false := by show ((["int"] : List String).any fun t => kitB "list" t == some true) = false; decide +kernel
@[simp] theorem isi_i_int (l : Int) : isiB ["int"] (.int l) = true := by show ((["int"] : List String).any fun t => kitB "int" t == some true) = true; decide +kernel
@[simp] theorem isi_i_bl (l : Bool) : isiB ["int"] (.bl l) = true := by show ((["int"] : List String).any fun t => kitB "bool" t == some true) = true; decide +kernel
@[simp] theorem isi_i_non : isiB ["int"] .non = false := by show ((["int"] : List String).any fun t => kitB "NoneType" t == some true) = false; decide +kernel
def tupN : Nat → D → D
  | n + 1, .tup l => .tup (l.map (tupN n))
  | n + 1, .lst l => .tup (l.map (tupN n))
  | _, d => d
def lisN : Nat → D → D
  | n + 1, .tup l => .lst (l.map (lisN n))
  | n + 1, .lst l => .lst (l.map (lisN n))
  | _, d => d
/-- nested sequences of ints -/
def okT : Nat → D → Prop
  | _, .int _ => True
  | n + 1, .tup l => l.length ≤ 1000 ∧ ∀ x ∈ l, okT n x
  | n + 1, .lst l => l.length ≤ 1000 ∧ ∀ x ∈ l, okT n x
  | _, _ => False
def okS : Nat → D → Prop
  | _, .int _ => True
  | _, .non => True
  | _, .bl _ => True
  | n + 1, .tup l => l.length ≤ 1000 ∧ ∀ x ∈ l, okS n x
  | n + 1, .lst l => l.length ≤ 1000 ∧ ∀ x ∈ l, okS n x
  | _, _ => False
def sp_no : SpD := fun _ _ _ => False
def sp_tupled (n : Nat) : SpD := fun ds c Q => ∃ d, ds = [d] ∧ okT n d ∧ Q (tupN n d) c
def sp_law_lists (n : Nat) : SpD := fun ds c Q => ∃ d, ds = [d] ∧ okT n d ∧ Q (lisN n d) c
def sp_law_same (n : Nat) : SpD := fun ds c Q => ∃ d, ds = [d, d] ∧ okS n d ∧ Q (.bl true) c
theorem hs_tupled0 (ds : List D) (c : Nat) (Q : D → Nat → Prop) (h : sp_tupled 0 ds c Q) : t_tupled sp_no (startR ["thing", "part"] ds) c (fun _ c' => Q .non c') Q := by
  obtain ⟨d, rfl, ok, h⟩ := h
  cases d with
  | int i => simpa [t_tupled, tupN] using h
  | _ => simp [okT] at ok
theorem hs_tupled (n : Nat) (ds : List D) (c : Nat) (Q : D → Nat → Prop) (h : sp_tupled (n + 1) ds c Q) : t_tupled (sp_tupled n) (startR ["thing", "part"] ds) c (fun _ c' => Q .non c') Q := by
  obtain ⟨d, rfl, ok, h⟩ := h
  cases d with
  | int i => simpa [t_tupled, tupN] using h
  | tup l =>
    obtain ⟨h1, h2⟩ := ok
    simp [t_tupled]
    refine ⟨by omega, ?_⟩
    have := lc_map (g := gN 1) (te := dFnN 1 (sp_tupled n) (dCons (dVar 1) dNil)) (ρ := [.va (.tup l), .no]) (c := c) id (tupN n) l [] (fun acc c2 => Q (.tup acc) c2) (fun x hx Q' q => by simp; exact ⟨x, rfl, h2 x hx, q⟩) (by simpa [tupN] using h)
    simpa using this
  | lst l =>
    obtain ⟨h1, h2⟩ := ok
    simp [t_tupled]
    refine ⟨by omega, ?_⟩
    have := lc_map (g := gN 1) (te := dFnN 1 (sp_tupled n) (dCons (dVar 1) dNil)) (ρ := [.va (.lst l), .no]) (c := c) id (tupN n) l [] (fun acc c2 => Q (.tup acc) c2) (fun x hx Q' q => by simp; exact ⟨x, rfl, h2 x hx, q⟩) (by simpa [tupN] using h)
    simpa using this
  | _ => simp [okT] at ok
theorem hs_law_lists0 (ds : List D) (c : Nat) (Q : D → Nat → Prop) (h : sp_law_lists 0 ds c Q) : t_law_lists sp_no (startR ["_law_matter", "_law_bit"] ds) c (fun _ c' => Q .non c') Q := by
  obtain ⟨d, rfl, ok, h⟩ := h
  cases d with
  | int i => simpa [t_law_lists, lisN] using h
  | _ => simp [okT] at ok
theorem hs_law_lists (n : Nat) (ds : List D) (c : Nat) (Q : D → Nat → Prop) (h : sp_law_lists (n + 1) ds c Q) : t_law_lists (sp_law_lists n) (startR ["_law_matter", "_law_bit"] ds) c (fun _ c' => Q .non c') Q := by
  obtain ⟨d, rfl, ok, h⟩ := h
  cases d with
  | int i => simpa [t_law_lists, lisN] using h
  | tup l =>
    obtain ⟨h1, h2⟩ := ok
    simp [t_law_lists]
    refine ⟨by omega, ?_⟩
    have := lc_map (g := gN 1) (te := dFnN 1 (sp_law_lists n) (dCons (dVar 1) dNil)) (ρ := [.va (.tup l), .no]) (c := c) id (lisN n) l [] (fun acc c2 => Q (.lst acc) c2) (fun x hx Q' q => by simp; exact ⟨x, rfl, h2 x hx, q⟩) (by simpa [lisN] using h)
    simpa using this
  | lst l =>
    obtain ⟨h1, h2⟩ := ok
    simp [t_law_lists]
    refine ⟨by omega, ?_⟩
    have := lc_map (g := gN 1) (te := dFnN 1 (sp_law_lists n) (dCons (dVar 1) dNil)) (ρ := [.va (.lst l), .no]) (c := c) id (lisN n) l [] (fun acc c2 => Q (.lst acc) c2) (fun x hx Q' q => by simp; exact ⟨x, rfl, h2 x hx, q⟩) (by simpa [lisN] using h)
    simpa using this
  | _ => simp [okT] at ok
theorem zip_same : ∀ (l : List D), zipD l l = l.map fun d => D.tup [d, d]
  | [] => rfl
  | x :: l => by simp [zipD, zip_same l]
theorem hs_law_same_leaf (sp : SpD) (d : D) (c : Nat) (Q : D → Nat → Prop) (hd : d = .non ∨ (∃ b, d = .bl b) ∨ ∃ i, d = .int i) (h : Q (.bl true) c) : t_law_same sp (startR ["_law_got", "_law_due", "_law_mine", "_law_its"] [d, d]) c (fun _ c' => Q .non c') Q := by
  rcases hd with rfl | ⟨b, rfl⟩ | ⟨i, rfl⟩
  · simpa [t_law_same, eqD, D.fine, D.py, PySem.PyData.eqv, D.isN] using h
  · cases b <;> simpa [t_law_same, eqD, D.fine, D.py, PySem.PyData.eqv, D.isN] using h
  · simpa [t_law_same, eqD, D.fine, D.py, PySem.PyData.eqv, D.isN] using h
theorem hs_law_same0 (ds : List D) (c : Nat) (Q : D → Nat → Prop) (h : sp_law_same 0 ds c Q) : t_law_same sp_no (startR ["_law_got", "_law_due", "_law_mine", "_law_its"] ds) c (fun _ c' => Q .non c') Q := by
  obtain ⟨d, rfl, ok, h⟩ := h
  cases d with
  | int i => exact hs_law_same_leaf _ _ c Q (.inr (.inr ⟨_, rfl⟩)) h
  | non => exact hs_law_same_leaf _ _ c Q (.inl rfl) h
  | bl i => exact hs_law_same_leaf _ _ c Q (.inr (.inl ⟨_, rfl⟩)) h
  | _ => simp [okS] at ok
theorem same_all (n : Nat) (l : List D) (ρ0 ρ1 : Sl) (c : Nat) (Q : List D → Nat → Prop) (h2 : ∀ x ∈ l, okS n x) (h : Q ((l.map fun _ => true).map D.bl) c) :
    lcT (gT 2 (gsCons (gN 2) (gsCons (gN 3) gsNil))) yesD (dFnN 2 (sp_law_same n) (dCons (dVar 2) (dCons (dVar 3) dNil))) (zipD l l) [ρ0, ρ1, .no, .no] c [] Q := by
  rw [zip_same]
  refine lc_map _ (fun _ => D.bl true) _ _ _ (fun x hx Q' q => ?_) ?_
  · simp
    exact ⟨x, rfl, h2 x hx, q⟩
  · rw [List.map_map] at h
    exact h
theorem hs_law_same (n : Nat) (ds : List D) (c : Nat) (Q : D → Nat → Prop) (h : sp_law_same (n + 1) ds c Q) : t_law_same (sp_law_same n) (startR ["_law_got", "_law_due", "_law_mine", "_law_its"] ds) c (fun _ c' => Q .non c') Q := by
  obtain ⟨d, rfl, ok, h⟩ := h
  cases d with
  | int i => exact hs_law_same_leaf _ _ c Q (.inr (.inr ⟨_, rfl⟩)) h
  | non => exact hs_law_same_leaf _ _ c Q (.inl rfl) h
  | bl i => exact hs_law_same_leaf _ _ c Q (.inr (.inl ⟨_, rfl⟩)) h
  | tup l =>
    obtain ⟨h1, h2⟩ := ok
    have := same_all n l (.va (.tup l)) (.va (.tup l)) c (fun acc c2 => allL [.lst acc] fun d => Q d c2) h2 ⟨l.map fun _ => true, rfl, by
      have e : (l.map fun _ => true).all id = true := by simp [List.all_eq_true]
      rw [e]; exact h⟩
    simp [t_law_same, neD, D.fine, D.py, PySem.PyData.eqv, -dFnN]
    exact ⟨by
      have : ∀ l : List D, (zipD l l).length = l.length := fun l => by rw [zip_same, List.length_map]
      rw [this]; omega, this⟩
  | lst l =>
    obtain ⟨h1, h2⟩ := ok
    have := same_all n l (.va (.lst l)) (.va (.lst l)) c (fun acc c2 => allL [.lst acc] fun d => Q d c2) h2 ⟨l.map fun _ => true, rfl, by
      have e : (l.map fun _ => true).all id = true := by simp [List.all_eq_true]
      rw [e]; exact h⟩
    simp [t_law_same, neD, D.fine, D.py, PySem.PyData.eqv, -dFnN]
    exact ⟨by
      have : ∀ l : List D, (zipD l l).length = l.length := fun l => by rw [zip_same, List.length_map]
      rw [this]; omega, this⟩
  | _ => simp [okS] at ok
end Pd
end
section
set_option Elab.async false
set_option linter.all false
set_option maxRecDepth 100000
/-! PS5: zeros_of. -/
namespace Pd
open Ma L2
def t_zeros_of (sp_reduced_rows sp_tupled sp_lead_of sp_unit_row sp_part_minus : SpD) : TSD := (sSeq (sSet .va 2 (dFnN 1 sp_reduced_rows (dCons (dFnN 1 sp_tupled (dCons (dVar 0) dNil)) dNil)))
  (sSeq (sSet .va 3 (dLc (iSeq (dVar 2)) (gN 4) yesD (dFnN 1 sp_lead_of (dCons (dVar 4) dNil)) [4]))
  (sSeq (sSet .ow 5 (dLst dNil))
  (sSeq (sFor (iRange1 (dCons (dVar 1) dNil)) (gN 6) (sIf (bT (dBin (inD true) (dVar 6) (dVar 3))) (sSeq (sSet .ow 7 (dCall list1 (dCons (dFnN 2 sp_unit_row (dCons (dVar 1) (dCons (dVar 6) dNil))) dNil)))
  (sSeq (sFor (iSeq (dVar 2)) (gN 4) (sPut 7 (dFnN 1 sp_lead_of (dCons (dVar 4) dNil)) (dFnN 1 sp_part_minus (dCons (dBin ixD (dVar 4) (dVar 6)) dNil))))
  (sApp 5 (dCall tuple1 (dCons (dOwn 7) dNil))))) sSkip))
  (sFrz 5 (sRet (dFnN 1 sp_reduced_rows (dCons (dVar 5) dNil))))))))
theorem okT_fr (n : Nat) (q : Rat) : okT (n + 1) (frD q) := by
  refine ⟨by simp, fun x hx => ?_⟩
  simp at hx
  rcases hx with rfl | rfl <;> cases n <;> trivial
theorem tupN_fr (n : Nat) (q : Rat) : tupN (n + 1) (frD q) = frD q := by
  cases n <;> rfl
theorem okT_row (n : Nat) {r : Row} (h : r.length ≤ 1000) : okT (n + 2) (rowT r) := by
  refine ⟨by simpa using h, fun x hx => ?_⟩
  obtain ⟨q, _, rfl⟩ := List.mem_map.mp hx
  exact okT_fr n q
theorem tupN_row (n : Nat) (r : Row) : tupN (n + 2) (rowT r) = rowT r := by
  show D.tup ((r.map frD).map (tupN (n + 1))) = _
  rw [List.map_map]
  exact congrArg D.tup (List.map_congr_left fun q _ => tupN_fr n q)
theorem okT_rows (n : Nat) {rs : List Row} (h : rs.length ≤ 1000) (h2 : ∀ r ∈ rs, r.length ≤ 1000) : okT (n + 3) (rowsT rs) := by
  refine ⟨by simpa using h, fun x hx => ?_⟩
  obtain ⟨q, hq, rfl⟩ := List.mem_map.mp hx
  exact okT_row n (h2 q hq)
theorem tupN_rows (n : Nat) (rs : List Row) : tupN (n + 3) (rowsT rs) = rowsT rs := by
  show D.tup ((rs.map rowT).map (tupN (n + 2))) = _
  rw [List.map_map]
  exact congrArg D.tup (List.map_congr_left fun q _ => tupN_row n q)
def sp_zeros_of : SpD := fun ds c Q => ∃ (rows : List Row) (n : Nat), ds = [rowsT rows, .int n] ∧ n ≤ 1000 ∧ rows.length ≤ 1000 ∧ (∀ r ∈ rows, r.length = n) ∧ ROk [] rows ∧ (∀ lines, lines.Perm (redF rows) → ROk [] (zerosF lines n)) ∧
  ∀ lines outs, lines.Perm (redF rows) → outs.Perm (redF (zerosF lines n)) → Q (rowsT outs) c
theorem set_map (r : Row) (i : Nat) (x : Rat) : (r.map frD).set i (frD x) = (r.set i x).map frD := by rw [List.map_set]
theorem ixN_nat' {n j : Nat} (hj : j < n) : ixN n (j : Int) = some j := by
  unfold ixN
  rw [if_pos (by omega), if_pos (by omega)]
  simp
theorem zin_loop {n : Nat} (p : Nat) (hp : p < n) (N : Rho → Nat → Prop) (R : D → Nat → Prop) (c : Nat) (s0 s1 s2 s3 s5 : Sl) : ∀ (ls : List Row) (r : Row) (s4 : Sl), r.length = n → (∀ f ∈ ls, f.length = n ∧ isZ f = false) →
    (∀ s4, N [s0, s1, s2, s3, s4, s5, .va (.int (p : Nat)), .ow ((ls.foldl (fun r f => r.set (lead f) (-(f.getD p 0))) r).map frD)] c) →
    forT (gN 4) (sPut 7 (dFnN 1 sp_lead_of (dCons (dVar 4) dNil)) (dFnN 1 sp_part_minus (dCons (dBin ixD (dVar 4) (dVar 6)) dNil))) (ls.map rowT) [s0, s1, s2, s3, s4, s5, .va (.int (p : Nat)), .ow (r.map frD)] c N R
  | [], r, s4, _, _, h => h s4
  | f :: ls, r, s4, hr, hl, h => by
    obtain ⟨h1, h2⟩ := hl f List.mem_cons_self
    have hlead := lead_lt h2
    simp only [List.map, forT, gN, sPut, dFnN, dCons, dNil, dVar, dBin, List.set, List.getElem?_cons_zero, List.getElem?_cons_succ, Option.some.injEq, Sl.va.injEq, Sl.ow.injEq, exists_eq_left', List.length]
    have e := at_map f p (by omega)
    refine ⟨_, e, by trivial, f.getD p 0, rfl, by trivial, f, rfl, h2, _, lead f, rfl, ?_, ?_⟩
    · exact ixN_nat' (by simpa using (show lead f < r.length by omega))
    · rw [set_map]
      exact zin_loop p hp N R c s0 s1 s2 s3 s5 ls _ _ (by rw [List.length_set]; exact hr) (fun g hg => hl g (List.mem_cons_of_mem _ hg)) h
theorem zout_loop {n : Nat} {lines : List Row} (hn : n ≤ 1000) (hlen : lines.length ≤ 1000) (hl : ∀ f ∈ lines, f.length = n ∧ isZ f = false) (N : Rho → Nat → Prop) (R : D → Nat → Prop) (c : Nat) (s0 : Sl) : ∀ (ps : List Nat) (acc : List Row) (s4 s6 s7 : Sl), (∀ p ∈ ps, p < n) → acc.length + ps.length ≤ 1000 →
    (∀ s4 s6 s7, N [s0, .va (.int (n : Nat)), .va (rowsT lines), .va (.lst ((lines.map fun f => (lead f : Int)).map D.int)), s4, .ow ((acc ++ (ps.filter fun p => !(lines.map lead).contains p).map (nullRow lines n)).map rowT), s6, s7] c) →
    forT (gN 6) (sIf (bT (dBin (inD true) (dVar 6) (dVar 3))) (sSeq (sSet .ow 7 (dCall list1 (dCons (dFnN 2 sp_unit_row (dCons (dVar 1) (dCons (dVar 6) dNil))) dNil)))
      (sSeq (sFor (iSeq (dVar 2)) (gN 4) (sPut 7 (dFnN 1 sp_lead_of (dCons (dVar 4) dNil)) (dFnN 1 sp_part_minus (dCons (dBin ixD (dVar 4) (dVar 6)) dNil))))
      (sApp 5 (dCall tuple1 (dCons (dOwn 7) dNil))))) sSkip) (ps.map fun p => D.int ((p : Nat) : Int)) [s0, .va (.int (n : Nat)), .va (rowsT lines), .va (.lst ((lines.map fun f => (lead f : Int)).map D.int)), s4, .ow (acc.map rowT), s6, s7] c N R
  | [], acc, s4, s6, s7, _, _, h => by simpa [forT] using h s4 s6 s7
  | p :: ps, acc, s4, s6, s7, hp, hk, h => by
    have hpn := hp p List.mem_cons_self
    simp only [List.length_cons] at hk
    simp only [List.map_cons, forT, gN, sIf, bT, dBin, dVar, List.set, List.getElem?_cons_zero, List.getElem?_cons_succ, Option.some.injEq, Sl.va.injEq, exists_eq_left', inD]
    refine ⟨(p : Int), lines.map fun f => (lead f : Int), rfl, .inl rfl, _, rfl, ?_⟩
    have ec : (lines.map fun f => (lead f : Int)).contains (p : Int) = (lines.map lead).contains p := by
      rw [Bool.eq_iff_iff]
      simp only [List.contains_iff_mem, List.mem_map]
      constructor
      · rintro ⟨f, hf, e⟩; exact ⟨f, hf, by omega⟩
      · rintro ⟨f, hf, e⟩; exact ⟨f, hf, by omega⟩
    simp only [if_true, ec]
    cases hc : (lines.map lead).contains p with
    | true =>
      simp only [Bool.not_true, Bool.false_eq_true, if_false, sSkip]
      refine zout_loop hn hlen hl N R c s0 ps acc _ _ _ (fun q hq => hp q (List.mem_cons_of_mem _ hq)) (by omega) fun s4 s6 s7 => ?_
      have := h s4 s6 s7
      rw [List.filter_cons_of_neg (by simp only [hc]; decide)] at this
      exact this
    | false =>
      have h' : ∀ s4 s6 s7, N [s0, .va (.int (n : Nat)), .va (rowsT lines), .va (.lst ((lines.map fun f => (lead f : Int)).map D.int)), s4, .ow (((acc ++ [nullRow lines n p]) ++ (ps.filter fun p => !(lines.map lead).contains p).map (nullRow lines n)).map rowT), s6, s7] c := fun s4 s6 s7 => by
        have := h s4 s6 s7
        rw [List.filter_cons_of_pos (by simp only [hc]; decide)] at this
        simpa using this
      have ih := fun s4 s6 s7 => zout_loop hn hlen hl N R c s0 ps (acc ++ [nullRow lines n p]) s4 s6 s7 (fun q hq => hp q (List.mem_cons_of_mem _ hq)) (by rw [List.length_append, List.length_singleton]; omega) h'
      simp only [Bool.not_false, if_true, sSeq, sSet, dCall, dFnN, dCons, dNil, dVar, Kd.sl, List.set, List.getElem?_cons_zero, List.getElem?_cons_succ, Option.some.injEq, Sl.va.injEq, exists_eq_left', List.length]
      refine ⟨by trivial, n, p, rfl, hn, ?_⟩
      simp only [rowT, list1, sFor, iSeq, dVar, List.getElem?_cons_zero, List.getElem?_cons_succ, Option.some.injEq, Sl.va.injEq, exists_eq_left', rowsT]
      refine zin_loop p hpn _ R c s0 _ _ _ _ lines (unitR n p) s4 (unit_len n p) hl fun s4 => ?_
      simp only [sApp, dCall, dCons, dNil, dOwn, List.getElem?_cons_zero, List.getElem?_cons_succ, Option.some.injEq, Sl.ow.injEq, exists_eq_left', tuple1, List.set, List.length_map]
      refine ⟨by omega, ?_⟩
      have := ih s4 (.va (.int (p : Nat))) (.ow ((nullRow lines n p).map frD))
      simpa [rowsT, rowT, nullRow, Function.comp_def] using this
theorem ivs_nat (n : Nat) : ivs 0 (n : Int) = (List.range n).map fun p => D.int ((p : Nat) : Int) := by
  unfold ivs
  simp
theorem hs_zeros_of {m : Nat} (ds : List D) (c : Nat) (Q : D → Nat → Prop) (h : sp_zeros_of ds c Q) : t_zeros_of sp_reduced_rows (sp_tupled (m + 3)) sp_lead_of sp_unit_row sp_part_minus (startR ["rows", "long", "lines", "leads", "line", "found", "place", "row"] ds) c (fun _ c' => Q .non c') Q := by
  obtain ⟨rows, n, rfl, hn, hk, hl, ok, ok2, h⟩ := h
  simp only [t_zeros_of, startR, sSeq, sSet, dFnN, dCons, dNil, dVar, Kd.sl, List.map, List.length, List.replicate, List.append, List.set, List.getElem?_cons_zero, List.getElem?_cons_succ, Option.some.injEq, Sl.va.injEq, exists_eq_left', HAppend.hAppend, Append.append, List.append]
  refine ⟨by trivial, rowsT rows, rfl, okT_rows m hk (fun r hr => by rw [hl r hr]; exact hn), by trivial, rows, n, .inl (by rw [tupN_rows]), hn, hk, hl, ok, fun lines pl => ?_⟩
  have R := (redF_rd hl).perm pl
  have len : lines.length ≤ 1000 := by
    have key : ∀ (rs fs : List Row), (rs.foldl redStep fs).length ≤ fs.length + rs.length := by
      intro rs
      induction rs with
      | nil => intro fs; simp
      | cons r rs ih =>
        intro fs
        have := ih (redStep fs r)
        have sl := step_len fs r
        simp only [List.foldl_cons, List.length_cons]
        have : (redStep fs r).length ≤ fs.length + 1 := by rw [sl]; split <;> omega
        omega
    have := key rows []
    simp at this
    rw [pl.length_eq]
    unfold redF
    omega
  have hlf : ∀ f ∈ lines, f.length = n ∧ isZ f = false := fun f hf => ⟨R.len f hf, R.nz f hf⟩
  simp only [dLc, iSeq, dVar, List.getElem?_cons_zero, List.getElem?_cons_succ, Option.some.injEq, Sl.va.injEq, exists_eq_left', rowsT, forgetR, List.set]
  refine ⟨by rw [List.length_map]; omega, lc_map _ (fun f => D.int (lead f : Nat)) _ _ _ (fun f hf Q' q => ?_) ?_⟩
  · simp
    exact ⟨f, rfl, (hlf f hf).2, q⟩
  · simp only [List.nil_append, sFor, iRange1, dCons, dNil, dVar, dLst, List.getElem?_cons_zero, List.getElem?_cons_succ, Option.some.injEq, Sl.va.injEq, exists_eq_left']
    refine ⟨by simp, by omega, by omega, ?_⟩
    rw [ivs_nat]
    have ez : lines.map (fun f => D.int ((lead f : Nat) : Int)) = (lines.map fun f => (lead f : Int)).map D.int := by rw [List.map_map]; rfl
    rw [ez]
    refine zout_loop hn len hlf _ Q c _ (List.range n) [] _ _ _ (fun p hp => List.mem_range.mp hp) (by simpa using hn) fun s4 s6 s7 => ?_
    simp only [sFrz, frz, List.getElem?_cons_zero, List.getElem?_cons_succ, List.set, sRet, dFnN, dCons, dNil, dVar, Option.some.injEq, Sl.va.injEq, exists_eq_left', List.length]
    refine ⟨by trivial, zerosF lines n, n, .inr (by simp [rowsL, zerosF]), hn, ?_, fun r hr => zeros_len r hr, ok2 lines pl, fun outs po => h lines outs pl po⟩
    unfold zerosF
    rw [List.length_map]
    refine Nat.le_trans (List.length_filter_le _ _) ?_
    rw [List.length_range]
    exact hn
end Pd
end
section
set_option Elab.async false
set_option linter.all false
set_option maxRecDepth 100000
/-! PS6: records: columns .. part_fits. -/
namespace Pd
open Ma L2
def t_columns (sp_tupled : SpD) : TSD := (sSeq (sPar .va .ow 1 2 (dFnN 1 sp_tupled (dCons (dVar 0) dNil)) (dLst dNil))
  (sSeq (sFor (iSeq (dBin ixD (dVar 1) (dC (.int 2)))) (gT 2 (gsCons (gN 3) (gsCons (gN 4) gsNil))) (sExt 2 (dLc (iZipD (dCons (dVar 3) (dCons (dVar 4) dNil))) (gT 2 (gsCons (gN 5) (gsCons (gN 6) gsNil))) yesD (dBin addD (dVar 5) (dVar 6)) [5, 6])))
  (sRet (dCall tuple1 (dCons (dOwn 2) dNil)))))
def t_next_columns (sp_tupled : SpD) : TSD := (sRet (dCall tuple1 (dCons (dLc2 (iSeq (dBin ixD (dFnN 1 sp_tupled (dCons (dVar 0) dNil)) (dC (.int 2)))) (gT 2 (gsCons (gN 1) (gsCons (gN 2) gsNil))) (iSeq (dSl (dVar 1) (oSo (dC (.int 1))) oNo)) (gN 3) (dVar 3) [1, 2, 3] [3]) dNil)))
def t_clash_in (sp_zeros_of sp_are_none sp_weighed : SpD) : TSD := (sSeq (sIf (bT (dBin eqD (dCall len1 (dCons (dVar 2) dNil)) (dC (.int 0)))) (sRet (dC .non)) sSkip)
  (sSeq (sSet .va 4 (dCall tuple1 (dCons (dLc (iRange1 (dCons (dBin addD (dVar 0) (dVar 1)) dNil)) (gN 5) yesD (dCall tuple1 (dCons (dLc (iSeq (dVar 2)) (gN 6) yesD (dBin ixD (dVar 6) (dVar 5)) [6]) dNil)) [5]) dNil)))
  (sSeq (sFor (iSeq (dFnN 2 sp_zeros_of (dCons (dVar 4) (dCons (dCall len1 (dCons (dVar 2) dNil)) dNil)))) (gN 7) (sIf (dNot (bT (dFnN 1 sp_are_none (dCons (dFnN 3 sp_weighed (dCons (dVar 7) (dCons (dVar 3) (dCons (dVar 0) dNil)))) dNil)))) (sRet (dVar 7)) sSkip))
  (sRet (dC .non)))))
def t_found_clash (sp_clash_in sp_columns sp_next_columns : SpD) : TSD := (sRet (dFnN 4 sp_clash_in (dCons (dBin ixD (dVar 0) (dC (.int 0))) (dCons (dBin ixD (dVar 0) (dC (.int 1))) (dCons (dFnN 1 sp_columns (dCons (dVar 0) dNil)) (dCons (dFnN 1 sp_next_columns (dCons (dVar 0) dNil)) dNil))))))
def t_could_be (sp_found_clash : SpD) : TSD := (sRet (dUn isND (dFnN 1 sp_found_clash (dCons (dVar 0) dNil))))
def t_part_noted : TSD := (sSeq (sAsg (dVar 0) (gT 2 (gsCons (gN 3) (gsCons (gN 4) gsNil))))
  (sRet (dTup (dCons (dCall len1 (dCons (dBin ixD (dVar 3) (dC (.int 0))) dNil)) (dCons (dCall len1 (dCons (dBin ixD (dVar 4) (dC (.int 0))) dNil)) (dCons (dTup (dCons (dTup (dCons (dSl (dVar 3) (oSo (dVar 1)) (oSo (dBin addD (dVar 2) (dC (.int 1))))) (dCons (dSl (dVar 4) (oSo (dVar 1)) (oSo (dVar 2))) dNil))) dNil)) dNil))))))
def t_fits_between (sp_could_be sp_part_noted : SpD) : TSD := (sRet (dFnN 1 sp_could_be (dCons (dFnN 3 sp_part_noted (dCons (dVar 0) (dCons (dVar 1) (dCons (dVar 2) dNil)))) dNil)))
def t_part_fits (sp_tupled sp_fits_between : SpD) : TSD := (sSeq (sSet .va 3 (dFnN 1 sp_tupled (dCons (dVar 0) dNil)))
  (sSeq (sFor (iSeq (dTup (dCons (dVar 1) (dCons (dVar 2) dNil)))) (gN 4) (sIf (dNot (bT (dChain leD leD (dC (.int 0)) (dVar 4) (dCall len1 (dCons (dBin ixD (dVar 3) (dC (.int 1))) dNil))))) (fun _ _ _ _ => False) sSkip))
  (sSeq (sIf (bT (dBin geD (dVar 1) (dVar 2))) (fun _ _ _ _ => False) sSkip)
  (sRet (dFnN 3 sp_fits_between (dCons (dVar 3) (dCons (dVar 1) (dCons (dVar 2) dNil))))))))
def zipA (L G : List Row) : List Row := List.zipWith (· ++ ·) L G
def notD (n m : Nat) (L G : List Row) : D := .tup [.int n, .int m, .tup [.tup [rowsT L, rowsT G]]]
def Few (L : List Row) : Prop := L.length ≤ 1000 ∧ ∀ r ∈ L, r.length ≤ 1000
theorem okT_int (k : Nat) (i : Int) : okT k (.int i) := by cases k <;> trivial
theorem tupN_int (k : Nat) (i : Int) : tupN k (.int i) = .int i := by cases k <;> rfl
theorem okT_not (k : Nat) {n m : Nat} {L G : List Row} (h1 : Few L) (h2 : Few G) : okT (k + 6) (notD n m L G) := by
  refine ⟨by simp, fun x hx => ?_⟩
  simp at hx
  rcases hx with rfl | rfl | rfl
  · exact okT_int _ _
  · exact okT_int _ _
  · refine ⟨by simp, fun x hx => ?_⟩
    simp at hx
    subst hx
    refine ⟨by simp, fun x hx => ?_⟩
    simp at hx
    rcases hx with rfl | rfl
    · exact okT_rows (k + 0) h1.1 h1.2
    · exact okT_rows (k + 0) h2.1 h2.2
theorem tupN_not (k : Nat) (n m : Nat) (L G : List Row) : tupN (k + 6) (notD n m L G) = notD n m L G := by
  unfold notD
  show D.tup [tupN (k + 5) (.int n), tupN (k + 5) (.int m), .tup [.tup [tupN (k + 3) (rowsT L), tupN (k + 3) (rowsT G)]]] = _
  rw [tupN_int, tupN_int, tupN_rows, tupN_rows]
def sp_columns : SpD := fun ds c Q => ∃ n m L G, ds = [notD n m L G] ∧ Few L ∧ Few G ∧ Q (rowsT (zipA L G)) c
def sp_next_columns : SpD := fun ds c Q => ∃ n m L G, ds = [notD n m L G] ∧ Few L ∧ Few G ∧ Q (rowsT (L.drop 1)) c
theorem hs_columns {k : Nat} (ds : List D) (c : Nat) (Q : D → Nat → Prop) (h : sp_columns ds c Q) : t_columns (sp_tupled (k + 6)) (startR ["noted", "own", "found", "line", "inputs", "cells", "given"] ds) c (fun _ c' => Q .non c') Q := by
  obtain ⟨n, m, L, G, rfl, h1, h2, h⟩ := h
  simp [t_columns, -dLc]
  refine ⟨_, rfl, okT_not k h1 h2, ?_⟩
  rw [tupN_not]
  simp [notD, atI, ixN, forT, rowsT, zipD_map, -List.map_append]
  have hz : (L.zip G).length ≤ 1000 := by rw [List.length_zip]; have := h1.1; omega
  have hz' := hz
  rw [List.length_zip] at hz'
  refine ⟨by omega, lc_map _ (fun p : Row × Row => rowT (p.1 ++ p.2)) _ _ _ (fun p hp Q' q => ?_) ?_⟩
  · have hm := List.of_mem_zip hp
    have a1 := h1.2 _ hm.1
    have a2 := h2.2 _ hm.2
    simp [rowT]
    refine ⟨by omega, ?_⟩
    simpa [rowT] using q
  · simp
    refine ⟨by omega, ?_⟩
    have e : (L.zip G).map (fun p => rowT (p.1 ++ p.2)) = (zipA L G).map rowT := by
      unfold zipA
      rw [List.map_zipWith, List.zip, List.map_zipWith]
    rw [e]
    exact h
def seg {α : Type} (l : List α) (a b : Nat) : List α := (l.drop a).take (b - a)
theorem cut_nat (l : List D) (a b : Nat) (h : a ≤ l.length) : cutD l (some (a : Int)) (some (b : Int)) = seg l a b := by
  unfold cutD seg
  rw [HT.sIx_nat, HT.sIx_nat, Nat.min_eq_left h]
  by_cases hb : b ≤ l.length
  · rw [Nat.min_eq_left hb]
  · rw [Nat.min_eq_right (by omega), List.take_of_length_le (by simp), List.take_of_length_le (by simp; omega)]
theorem cut1 (l : List D) : cutD l (some 1) none = l.drop 1 := by
  have e : cutD l (some ((1 : Nat) : Int)) none = l.drop 1 := by
    unfold cutD
    rw [HT.sIx_nat, HT.sIx_none]
    by_cases h : 1 ≤ l.length
    · rw [Nat.min_eq_left h, List.take_of_length_le (by simp)]
    · have : l = [] := List.eq_nil_of_length_eq_zero (by omega)
      subst this
      rfl
  exact e
theorem hs_next_columns {k : Nat} (ds : List D) (c : Nat) (Q : D → Nat → Prop) (h : sp_next_columns ds c Q) : t_next_columns (sp_tupled (k + 6)) (startR ["noted", "line", "_", "cells"] ds) c (fun _ c' => Q .non c') Q := by
  obtain ⟨n, m, L, G, rfl, h1, h2, h⟩ := h
  simp [t_next_columns, -dLc]
  refine ⟨_, rfl, okT_not k h1 h2, ?_⟩
  rw [tupN_not]
  simp [notD, atI, ixN, lc2T, rowsT, cut1]
  have a1 := h1.1
  refine ⟨by omega, ?_⟩
  rw [← List.map_tail]
  refine lc_map rowT rowT _ _ _ (fun p hp Q' q => ?_) ?_
  · simpa using q
  · simpa [rowsT] using h
def plF (cols : List Row) (w : Nat) : List Row := (List.range w).map fun p => cols.map fun r => r.getD p 0
def Gr (w n : Nat) (cols nexts : List Row) : Prop := ∀ v : Nat → Rat, (∀ p, p < w → sumF cols.length (fun i => v i * (cols.getD i []).getD p 0) = 0) → ∀ j, j < n → sumF cols.length (fun i => v i * (nexts.getD i []).getD j 0) = 0
structure CkOk (n m : Nat) (cols nexts : List Row) : Prop where
  len : cols.length ≤ 1000
  pos : 0 < cols.length
  nm : n + m ≤ 1000
  cl : ∀ r ∈ cols, r.length = n + m
  nl : nexts.length = cols.length
  nn : ∀ r ∈ nexts, r.length = n
  r1 : ROk [] (plF cols (n + m))
  r2 : ∀ lines : List Row, lines.Perm (redF (plF cols (n + m))) → ROk [] (zerosF lines cols.length)
  r3 : ∀ lines outs : List Row, lines.Perm (redF (plF cols (n + m))) → outs.Perm (redF (zerosF lines cols.length)) → ∀ u ∈ outs, WOk u nexts (List.replicate n 0)
theorem pl_get (cols : List Row) (p i : Nat) : (cols.map fun r => r.getD p 0).getD i 0 = (cols.getD i []).getD p 0 := by
  simp only [List.getD, List.getElem?_map]
  cases cols[i]? <;> simp
theorem pl_ann {cols : List Row} {w : Nat} {v : Nat → Rat} : Ann (plF cols w) v ↔ ∀ p, p < w → sumF cols.length (fun i => v i * (cols.getD i []).getD p 0) = 0 := by
  have key : ∀ p, dotF (cols.map fun r => r.getD p 0) v = sumF cols.length (fun i => v i * (cols.getD i []).getD p 0) := fun p => by
    rw [dotF_sum, List.length_map]
    exact sumF_ext fun i _ => by rw [pl_get]; grind
  constructor
  · intro h p hp
    rw [← key]
    exact h _ (List.mem_map.mpr ⟨p, List.mem_range.mpr hp, rfl⟩)
  · intro h f hf
    obtain ⟨p, hp, rfl⟩ := List.mem_map.mp hf
    rw [key]
    exact h p (List.mem_range.mp hp)
theorem fit_iff {n m : Nat} {cols nexts lines outs : List Row} (ck : CkOk n m cols nexts) (pl : lines.Perm (redF (plF cols (n + m)))) (po : outs.Perm (redF (zerosF lines cols.length))) :
    (∀ u ∈ outs, isZ (weighF u nexts (List.replicate n 0)) = true) ↔ Gr (n + m) n cols nexts := by
  have hl : ∀ r ∈ plF cols (n + m), r.length = cols.length := fun r hr => by
    obtain ⟨p, _, rfl⟩ := List.mem_map.mp hr
    simp
  have ul : ∀ u ∈ outs, u.length = nexts.length := fun u hu => by
    rw [ck.nl]
    exact (redF_rd (n := cols.length) fun r hr => zeros_len r hr).len u (po.mem_iff.mp hu)
  have wg : ∀ u ∈ outs, ∀ j, (weighF u nexts (List.replicate n 0)).length = n ∧ (weighF u nexts (List.replicate n 0)).getD j 0 = dotF u (fun i => (nexts.getD i []).getD j 0) := fun u hu j => by
    obtain ⟨a, b⟩ := weigh_get n u nexts (List.replicate n 0) j (by simp) ck.nn (ul u hu)
    refine ⟨a, ?_⟩
    rw [b]
    have : (List.replicate n (0 : Rat)).getD j 0 = 0 := by
      simp only [List.getD, List.getElem?_replicate]
      split <;> rfl
    rw [this]
    grind
  have main := fun j => prog_main hl pl po (fun i => (nexts.getD i []).getD j 0)
  constructor
  · intro h v hv j hj
    refine (main j).mp (fun u hu => ?_) v (pl_ann.mpr hv)
    rw [← (wg u hu j).2]
    exact isZ_get (h u hu) j
  · intro h u hu
    refine isZ_of fun j hj => ?_
    rw [(wg u hu j).1] at hj
    rw [(wg u hu j).2]
    exact (main j).mpr (fun v hv => h v (pl_ann.mp hv) j hj) u hu
def sp_clash_in : SpD := fun ds c Q => ∃ n m cols nexts, ds = [.int (n : Nat), .int (m : Nat), rowsT cols, rowsT nexts] ∧ CkOk n m cols nexts ∧ (Gr (n + m) n cols nexts → Q .non c) ∧ (¬Gr (n + m) n cols nexts → ∀ u : Row, Q (rowT u) c)
theorem clash_loop (N : Rho → Nat → Prop) (R : D → Nat → Prop) (c : Nat) (s1 s2 s4 s5 s6 : Sl) {n : Nat} {nexts : List Row} (hn : n ≤ 1000) : ∀ (us : List Row) (s7 : Sl), (∀ u ∈ us, u.length ≤ 1000 ∧ WOk u nexts (List.replicate n 0) ∧ (weighF u nexts (List.replicate n 0)).length ≤ 1000) →
    ((∀ u ∈ us, isZ (weighF u nexts (List.replicate n 0)) = true) → ∀ s7, N [.va (.int (n : Nat)), s1, s2, .va (rowsT nexts), s4, s5, s6, s7] c) → (∀ u ∈ us, isZ (weighF u nexts (List.replicate n 0)) = false → R (rowT u) c) →
    forT (gN 7) (sIf (dNot (bT (dFnN 1 sp_are_none (dCons (dFnN 3 sp_weighed (dCons (dVar 7) (dCons (dVar 3) (dCons (dVar 0) dNil)))) dNil)))) (sRet (dVar 7)) sSkip) (us.map rowT) [.va (.int (n : Nat)), s1, s2, .va (rowsT nexts), s4, s5, s6, s7] c N R
  | [], s7, _, h, _ => h (fun _ z => nomatch z) s7
  | u :: us, s7, hu, h, hr => by
    obtain ⟨a1, a2, a3⟩ := hu u List.mem_cons_self
    simp only [List.map_cons, forT, gN, sIf, dNot, bT, dFnN, dCons, dNil, dVar, List.set, List.getElem?_cons_zero, List.getElem?_cons_succ, Option.some.injEq, Sl.va.injEq, exists_eq_left', List.length]
    refine ⟨by trivial, u, nexts, n, rfl, a1, hn, a2, by trivial, _, rfl, a3, _, rfl, ?_⟩
    cases hz : isZ (weighF u nexts (List.replicate n 0)) with
    | true =>
      simp only [Bool.not_true, Bool.false_eq_true, if_false, sSkip]
      exact clash_loop N R c s1 s2 s4 s5 s6 hn us _ (fun v hv => hu v (List.mem_cons_of_mem _ hv)) (fun k => h fun v hv => by
        rcases List.mem_cons.mp hv with e | hv
        · rw [e]; exact hz
        · exact k v hv) (fun v hv => hr v (List.mem_cons_of_mem _ hv))
    | false =>
      simp
      exact hr u List.mem_cons_self hz
theorem hs_clash_in (ds : List D) (c : Nat) (Q : D → Nat → Prop) (h : sp_clash_in ds c Q) : t_clash_in sp_zeros_of sp_are_none sp_weighed (startR ["size", "many", "given", "later", "rows", "place", "column", "weights"] ds) c (fun _ c' => Q .non c') Q := by
  obtain ⟨n, m, cols, nexts, rfl, ck, hy, hno⟩ := h
  have a1 := ck.len
  have a2 := ck.pos
  have a3 := ck.nm
  have hpl : (plF cols (n + m)).length = n + m := by simp [plF]
  simp only [t_clash_in, startR, sSeq, sIf, bT, dBin, dCall, dCons, dNil, dVar, dC, List.map, List.length, List.replicate, List.append, List.set, List.getElem?_cons_zero, List.getElem?_cons_succ, Option.some.injEq, Sl.va.injEq, exists_eq_left', HAppend.hAppend, Append.append, List.append, rowsT, len1, eqD_int]
  refine ⟨_, rfl, ?_⟩
  rw [List.length_map, decide_eq_false (by omega)]
  simp only [Bool.false_eq_true, if_false, sSkip, sSet, dCall, dCons, dNil, dVar, dBin, dLc, iRange1, addD, Kd.sl, List.set, List.getElem?_cons_zero, List.getElem?_cons_succ, Option.some.injEq, Sl.va.injEq, exists_eq_left']
  have e1 : ivs 0 ((n : Int) + (m : Int)) = (List.range (n + m)).map fun p => D.int ((p : Nat) : Int) := by
    rw [← ivs_nat]; congr 1
  have e2 : (n : Int) + (m : Int) = ((n + m : Nat) : Int) := by omega
  rw [e1]
  refine ⟨by omega, by omega, by simp; omega, lc_map _ (fun p => rowT (cols.map fun r => r.getD p 0)) _ _ _ (fun p hp Q' q => ?_) ?_⟩
  · have hp' := List.mem_range.mp hp
    simp
    refine ⟨by omega, lc_map rowT (fun r => frD (r.getD p 0)) _ _ _ (fun r hr Q2 q2 => ?_) ?_⟩
    · simp [rowT]
      exact ⟨_, at_map r p (by rw [ck.cl r hr]; exact hp'), q2⟩
    · simpa [rowT, Function.comp_def] using q
  · have e3 : (List.range (n + m)).map (fun p => rowT (cols.map fun r => r.getD p 0)) = (plF cols (n + m)).map rowT := by
      unfold plF
      rw [List.map_map]
      rfl
    rw [e3]
    simp only [List.nil_append, tuple1, sFor, iSeq, dFnN, dCall, dCons, dNil, dVar, len1, List.getElem?_cons_zero, List.getElem?_cons_succ, Option.some.injEq, Sl.va.injEq, exists_eq_left', List.length]
    have hl : ∀ r ∈ plF cols (n + m), r.length = cols.length := fun r hr => by
      obtain ⟨p, _, rfl⟩ := List.mem_map.mp hr
      simp
    refine ⟨by trivial, plF cols (n + m), cols.length, by rw [List.length_map]; rfl, a1, by omega, hl, ck.r1, ck.r2, fun lines outs pl po => ?_⟩
    have fit := fit_iff ck pl po
    have R := (redF_rd (n := cols.length) fun r hr => zeros_len (lines := lines) r hr)
    have := clash_loop (fun ρ c => Q .non c) Q c (.va (.int (m : Nat))) (.va (rowsT cols)) (.va (rowsT (plF cols (n + m)))) .no .no (n := n) (nexts := nexts) (by omega) outs .no (fun u hu => ?_) (fun k _ => hy (fit.mp k)) (fun u hu k => hno (fun g => by
      have := fit.mpr g u hu
      rw [k] at this
      cases this) u)
    · simpa [rowsT] using this
    · have ul := R.len u (po.mem_iff.mp hu)
      refine ⟨by omega, ck.r3 lines outs pl po u hu, ?_⟩
      rw [(weigh_get n u nexts (List.replicate n 0) 0 (by simp) ck.nn (by rw [ck.nl]; exact ul)).1]
      omega
end Pd
end
section
set_option Elab.async false
set_option linter.all false
set_option maxRecDepth 100000
/-! PS7: fits of parts of a piece. -/
namespace Pd
open Ma L2
def frS (q : Rat) : D := .lst [.int q.num, .int q.den]
def rowS (r : Row) : D := .lst (r.map frS)
def pieceT (L G : List Row) : D := .tup [rowsT L, rowsT G]
def pieceS (L G : List Row) : D := .lst [.lst (L.map rowS), .lst (G.map rowS)]
def IsPc (d : D) (L G : List Row) : Prop := d = pieceT L G ∨ d = pieceS L G
def colsP (L G : List Row) (a b : Nat) : List Row := zipA (seg L a (b + 1)) (seg G a b)
def nextP (L : List Row) (a b : Nat) : List Row := (seg L a (b + 1)).drop 1
structure PcOk (n m : Nat) (L G : List Row) : Prop where
  len : L.length = G.length + 1
  pos : 0 < G.length
  few : G.length ≤ 100
  nm : n + m ≤ 100
  ln : ∀ r ∈ L, r.length = n
  gm : ∀ r ∈ G, r.length = m
  ck : ∀ a b, a < b → b ≤ G.length → CkOk n m (colsP L G a b) (nextP L a b)
open Classical in
noncomputable def fitB (n m : Nat) (L G : List Row) (a b : Nat) : Bool := decide (Gr (n + m) n (colsP L G a b) (nextP L a b))
theorem PcOk.fewL {n m : Nat} {L G : List Row} (p : PcOk n m L G) : Few L := ⟨by have := p.len; have := p.few; omega, fun r hr => by rw [p.ln r hr]; have := p.nm; omega⟩
theorem PcOk.fewG {n m : Nat} {L G : List Row} (p : PcOk n m L G) : Few G := ⟨by have := p.few; omega, fun r hr => by rw [p.gm r hr]; have := p.nm; omega⟩
theorem seg_mem {α : Type} {l : List α} {a b : Nat} {x : α} (h : x ∈ seg l a b) : x ∈ l := List.mem_of_mem_drop (List.mem_of_mem_take h)
theorem seg_len {α : Type} (l : List α) (a b : Nat) (h : b ≤ l.length) : (seg l a b).length = b - a := by
  unfold seg
  rw [List.length_take, List.length_drop]; omega
theorem Few.seg {L : List Row} (h : Few L) (a b : Nat) : Few (seg L a b) := ⟨by
  unfold Pd.seg
  rw [List.length_take, List.length_drop]
  have := h.1
  omega, fun r hr => h.2 r (seg_mem hr)⟩
theorem okT_pieceT (k : Nat) {L G : List Row} (h1 : Few L) (h2 : Few G) : okT (k + 4) (pieceT L G) := by
  refine ⟨by simp, fun x hx => ?_⟩
  simp at hx
  rcases hx with rfl | rfl
  · exact okT_rows k h1.1 h1.2
  · exact okT_rows k h2.1 h2.2
theorem tupN_pieceT (k : Nat) (L G : List Row) : tupN (k + 4) (pieceT L G) = pieceT L G := by
  show D.tup [tupN (k + 3) (rowsT L), tupN (k + 3) (rowsT G)] = _
  rw [tupN_rows, tupN_rows]; rfl
theorem okT_frS (n : Nat) (q : Rat) : okT (n + 1) (frS q) := by
  refine ⟨by simp, fun x hx => ?_⟩
  simp at hx
  rcases hx with rfl | rfl <;> cases n <;> trivial
theorem okT_rowS (n : Nat) {r : Row} (h : r.length ≤ 1000) : okT (n + 2) (rowS r) := by
  refine ⟨by simpa using h, fun x hx => ?_⟩
  obtain ⟨q, _, rfl⟩ := List.mem_map.mp hx
  exact okT_frS n q
theorem okT_pieceS (k : Nat) {L G : List Row} (h1 : Few L) (h2 : Few G) : okT (k + 4) (pieceS L G) := by
  have key : ∀ {L : List Row}, Few L → okT (k + 3) (.lst (L.map rowS)) := fun {L} h => ⟨by simpa using h.1, fun x hx => by
    obtain ⟨q, hq, rfl⟩ := List.mem_map.mp hx
    exact okT_rowS k (h.2 q hq)⟩
  refine ⟨by simp, fun x hx => ?_⟩
  simp at hx
  rcases hx with rfl | rfl
  · exact key h1
  · exact key h2
theorem tupN_rowS (k : Nat) (r : Row) : tupN (k + 2) (rowS r) = rowT r := by
  show D.tup ((r.map frS).map (tupN (k + 1))) = _
  rw [List.map_map]
  refine congrArg D.tup (List.map_congr_left fun q _ => ?_)
  cases k <;> rfl
theorem tupN_pieceS (k : Nat) (L G : List Row) : tupN (k + 4) (pieceS L G) = pieceT L G := by
  have key : ∀ L : List Row, tupN (k + 3) (.lst (L.map rowS)) = rowsT L := fun L => by
    show D.tup ((L.map rowS).map (tupN (k + 2))) = _
    rw [List.map_map]
    exact congrArg D.tup (List.map_congr_left fun q _ => tupN_rowS k q)
  show D.tup [tupN (k + 3) (.lst (L.map rowS)), tupN (k + 3) (.lst (G.map rowS))] = _
  rw [key, key]; rfl
theorem lisN_rowT (k : Nat) (r : Row) : lisN (k + 2) (rowT r) = rowS r := by
  show D.lst ((r.map frD).map (lisN (k + 1))) = _
  rw [List.map_map]
  refine congrArg D.lst (List.map_congr_left fun q _ => ?_)
  cases k <;> rfl
theorem lisN_pieceT (k : Nat) (L G : List Row) : lisN (k + 4) (pieceT L G) = pieceS L G := by
  have key : ∀ L : List Row, lisN (k + 3) (rowsT L) = .lst (L.map rowS) := fun L => by
    show D.lst ((L.map rowT).map (lisN (k + 2))) = _
    rw [List.map_map]
    exact congrArg D.lst (List.map_congr_left fun q _ => lisN_rowT k q)
  show D.lst [lisN (k + 3) (rowsT L), lisN (k + 3) (rowsT G)] = _
  rw [key, key]; rfl
theorem isPc_ok (k : Nat) {d : D} {L G : List Row} (h : IsPc d L G) (h1 : Few L) (h2 : Few G) : okT (k + 4) d ∧ tupN (k + 4) d = pieceT L G := by
  rcases h with rfl | rfl
  · exact ⟨okT_pieceT k h1 h2, tupN_pieceT k L G⟩
  · exact ⟨okT_pieceS k h1 h2, tupN_pieceS k L G⟩
def sp_found_clash : SpD := fun ds c Q => ∃ n m L G, ds = [notD n m L G] ∧ Few L ∧ Few G ∧ CkOk n m (zipA L G) (L.drop 1) ∧ (Gr (n + m) n (zipA L G) (L.drop 1) → Q .non c) ∧ (¬Gr (n + m) n (zipA L G) (L.drop 1) → ∀ u : Row, Q (rowT u) c)
theorem hs_found_clash (ds : List D) (c : Nat) (Q : D → Nat → Prop) (h : sp_found_clash ds c Q) : t_found_clash sp_clash_in sp_columns sp_next_columns (startR ["noted"] ds) c (fun _ c' => Q .non c') Q := by
  obtain ⟨n, m, L, G, rfl, h1, h2, ck, hy, hn⟩ := h
  simp [t_found_clash]
  simp only [notD, ixD]
  refine ⟨_, rfl, _, rfl, n, m, L, G, rfl, h1, h2, n, m, L, G, rfl, h1, h2, n, m, _, _, rfl, ck, hy, hn⟩
open Classical in
noncomputable def sp_could_be : SpD := fun ds c Q => ∃ n m L G, ds = [notD n m L G] ∧ Few L ∧ Few G ∧ CkOk n m (zipA L G) (L.drop 1) ∧ Q (.bl (decide (Gr (n + m) n (zipA L G) (L.drop 1)))) c
open Classical in
theorem hs_could_be (ds : List D) (c : Nat) (Q : D → Nat → Prop) (h : sp_could_be ds c Q) : t_could_be sp_found_clash (startR ["noted"] ds) c (fun _ c' => Q .non c') Q := by
  obtain ⟨n, m, L, G, rfl, h1, h2, ck, h⟩ := h
  simp [t_could_be]
  refine ⟨n, m, L, G, rfl, h1, h2, ck, fun g => ?_, fun g u => ?_⟩
  · rw [decide_eq_true g] at h
    simpa [D.isN] using h
  · rw [decide_eq_false g] at h
    simpa [D.isN, rowT] using h
def sp_part_noted : SpD := fun ds c Q => ∃ n m L G a b, ds = [pieceT L G, .int (a : Nat), .int (b : Nat)] ∧ PcOk n m L G ∧ a < b ∧ b ≤ G.length ∧ Q (notD n m (seg L a (b + 1)) (seg G a b)) c
theorem hs_part_noted (ds : List D) (c : Nat) (Q : D → Nat → Prop) (h : sp_part_noted ds c Q) : t_part_noted (startR ["piece", "first", "last", "line", "inputs"] ds) c (fun _ c' => Q .non c') Q := by
  obtain ⟨n, m, L, G, a, b, rfl, ok, hab, hb, h⟩ := h
  have l1 := ok.len
  have p1 := ok.pos
  obtain ⟨r0, L', rfl⟩ : ∃ r0 L', L = r0 :: L' := by
    cases L with
    | nil => simp at l1
    | cons r L => exact ⟨r, L, rfl⟩
  obtain ⟨g0, G', rfl⟩ : ∃ r0 L', G = r0 :: L' := by
    cases G with
    | nil => simp at p1
    | cons r L => exact ⟨r, L, rfl⟩
  have e1 : r0.length = n := ok.ln r0 List.mem_cons_self
  have e2 : g0.length = m := ok.gm g0 List.mem_cons_self
  have key : ∀ (M : List Row) (a b : Nat), a ≤ M.length → cutD (M.map rowT) (some (a : Int)) (some (b : Int)) = (seg M a b).map rowT := fun M a b h => by
    rw [cut_nat _ _ _ (by simpa using h)]
    unfold seg
    rw [List.map_take, List.map_drop]
  have k1 := key (r0 :: L') a (b + 1) (by omega)
  have k2 := key (g0 :: G') a b (by omega)
  simp [t_part_noted, pieceT, rowsT]
  refine ⟨rowT r0, by simp [atI, ixN], ?_⟩
  simp [rowT]
  refine ⟨D.tup (g0.map frD), by simp [atI, ixN], ?_⟩
  simp only [List.length_map]
  rw [e1, e2]
  simp only [List.map_cons] at k1 k2
  have c1 : ((b : Int) + 1) = ((b + 1 : Nat) : Int) := by omega
  simp only [rowT] at k1 k2
  rw [c1, k1, k2]
  exact h
noncomputable def sp_fits_between : SpD := fun ds c Q => ∃ n m L G a b, ds = [pieceT L G, .int (a : Nat), .int (b : Nat)] ∧ PcOk n m L G ∧ a < b ∧ b ≤ G.length ∧ Q (.bl (fitB n m L G a b)) c
theorem hs_fits_between (ds : List D) (c : Nat) (Q : D → Nat → Prop) (h : sp_fits_between ds c Q) : t_fits_between sp_could_be sp_part_noted (startR ["piece", "first", "last"] ds) c (fun _ c' => Q .non c') Q := by
  obtain ⟨n, m, L, G, a, b, rfl, ok, hab, hb, h⟩ := h
  simp [t_fits_between]
  exact ⟨n, m, L, G, a, b, rfl, ok, hab, hb, n, m, _, _, rfl, ok.fewL.seg _ _, ok.fewG.seg _ _, ok.ck a b hab hb, h⟩
noncomputable def sp_part_fits : SpD := fun ds c Q => ∃ n m L G a b d, ds = [d, .int (a : Nat), .int (b : Nat)] ∧ IsPc d L G ∧ PcOk n m L G ∧ a < b ∧ b ≤ G.length ∧ Q (.bl (fitB n m L G a b)) c
theorem hs_part_fits {k : Nat} (ds : List D) (c : Nat) (Q : D → Nat → Prop) (h : sp_part_fits ds c Q) : t_part_fits (sp_tupled (k + 4)) sp_fits_between (startR ["piece", "first", "last", "own", "number"] ds) c (fun _ c' => Q .non c') Q := by
  obtain ⟨n, m, L, G, a, b, d, rfl, pc, ok, hab, hb, h⟩ := h
  obtain ⟨o1, o2⟩ := isPc_ok k pc ok.fewL ok.fewG
  simp [t_part_fits]
  refine ⟨d, rfl, o1, ?_⟩
  rw [o2]
  simp [forT, pieceT, rowsT, atI, ixN]
  exact ⟨by omega, hb, hab, n, m, L, G, a, b, rfl, ok, hab, hb, h⟩
end Pd
end
section
set_option Elab.async false
set_option linter.all false
set_option maxRecDepth 100000
/-! PS8: changes. -/
namespace Pd
open Ma L2 Mc
def t_front_ends (sp_fits_between : SpD) : TSD := (sSeq (sPar .ow .va 2 3 (dLst dNil) (dC (.int 0)))
  (sSeq (sWh (bT (dBin ltD (dVar 3) (dVar 1))) (sSeq (sSet .va 4 (dVar 3))
  (sSeq (sWh (dAnd (bT (dBin ltD (dVar 4) (dVar 1))) (bT (dFnN 3 sp_fits_between (dCons (dVar 0) (dCons (dVar 3) (dCons (dBin addD (dVar 4) (dC (.int 1))) dNil)))))) (sAug 4 (dC (.int 1)) (fun i j => i + j)))
  (sSeq (sIf (bT (dBin eqD (dVar 4) (dVar 3))) (sRet (dC .non)) sSkip)
  (sSeq (sApp 2 (dVar 4))
  (sSet .va 3 (dVar 4)))))))
  (sFrz 2 (sRet (dVar 2)))))
def t_back_starts (sp_fits_between : SpD) : TSD := (sSeq (sPar .ow .va 2 3 (dLst dNil) (dVar 1))
  (sSeq (sWh (bT (dBin gtD (dVar 3) (dC (.int 0)))) (sSeq (sSet .va 4 (dBin subD (dVar 3) (dC (.int 1))))
  (sSeq (sWh (dAnd (bT (dBin gtD (dVar 4) (dC (.int 0)))) (bT (dFnN 3 sp_fits_between (dCons (dVar 0) (dCons (dBin subD (dVar 4) (dC (.int 1))) (dCons (dVar 3) dNil)))))) (sAug 4 (dC (.int 1)) (fun i j => i - j)))
  (sSeq (sApp 2 (dVar 4))
  (sSet .va 3 (dVar 4))))))
  (sRet (dUn revD (dOwn 2)))))
def t_fewest_changes (sp_tupled sp_front_ends : SpD) : TSD := (sSeq (sSet .va 1 (dFnN 1 sp_tupled (dCons (dVar 0) dNil)))
  (sSeq (sSet .va 2 (dFnN 2 sp_front_ends (dCons (dVar 1) (dCons (dCall len1 (dCons (dBin ixD (dVar 1) (dC (.int 1))) dNil)) dNil))))
  (sRet (dIf (bT (dUn isND (dVar 2))) (dC .non) (dBin subD (dCall len1 (dCons (dVar 2) dNil)) (dC (.int 1)))))))
def t_parts_around : TSD := (sSeq (sSet .va 5 (dIf (bT (dBin eqD (dVar 2) (dC (.int 0)))) (dC (.int 0)) (dBin addD (dC (.int 1)) (dCall len1 (dCons (dLc (iSeq (dVar 0)) (gN 6) (bT (dBin ltD (dVar 6) (dVar 2))) (dVar 6) [6]) dNil)))))
  (sRet (dBin addD (dBin addD (dVar 5) (dC (.int 1))) (dIf (bT (dBin eqD (dVar 3) (dVar 4))) (dC (.int 0)) (dBin addD (dC (.int 1)) (dCall len1 (dCons (dLc (iSeq (dVar 1)) (gN 7) (bT (dBin gtD (dVar 7) (dVar 3))) (dVar 7) [7]) dNil)))))))
def t_sure_change (sp_tupled sp_front_ends sp_back_starts sp_parts_around sp_fits_between : SpD) : TSD := (sSeq (sSet .va 3 (dFnN 1 sp_tupled (dCons (dVar 0) dNil)))
  (sSeq (sSet .va 4 (dCall len1 (dCons (dBin ixD (dVar 3) (dC (.int 1))) dNil)))
  (sSeq (sSet .va 5 (dFnN 2 sp_front_ends (dCons (dVar 3) (dCons (dVar 4) dNil))))
  (sSeq (sIf (bT (dUn isND (dVar 5))) (fun _ _ _ _ => False) sSkip)
  (sSeq (sSet .va 6 (dFnN 2 sp_back_starts (dCons (dVar 3) (dCons (dVar 4) dNil))))
  (sSeq (sFor (iSeq (dLc (iRange1 (dCons (dVar 4) dNil)) (gN 8) (dOr (bT (dBin eqD (dVar 8) (dC (.int 0)))) (bT (dBin leD (dVar 8) (dVar 1)))) (dVar 8) [8])) (gN 7) (sFor (iSeq (dLc (iRange2 (dCons (dBin addD (dVar 7) (dC (.int 1))) (dCons (dBin addD (dVar 4) (dC (.int 1))) dNil))) (gN 8) (dOr (bT (dBin eqD (dVar 8) (dVar 4))) (bT (dBin gtD (dVar 8) (dVar 2)))) (dVar 8) [8])) (gN 9) (sIf (dAnd (bT (dBin eqD (dFnN 5 sp_parts_around (dCons (dVar 5) (dCons (dVar 6) (dCons (dVar 7) (dCons (dVar 9) (dCons (dVar 4) dNil)))))) (dCall len1 (dCons (dVar 5) dNil)))) (bT (dFnN 3 sp_fits_between (dCons (dVar 3) (dCons (dVar 7) (dCons (dVar 9) dNil)))))) (sRet (dC (.bl false))) sSkip)))
  (sRet (dC (.bl true)))))))))
def t_latest_changes (sp_tupled sp_front_ends : SpD) : TSD := (sSeq (sSet .va 1 (dFnN 1 sp_tupled (dCons (dVar 0) dNil)))
  (sSeq (sSet .va 2 (dFnN 2 sp_front_ends (dCons (dVar 1) (dCons (dCall len1 (dCons (dBin ixD (dVar 1) (dC (.int 1))) dNil)) dNil))))
  (sSeq (sIf (bT (dUn isND (dVar 2))) (fun _ _ _ _ => False) sSkip)
  (sRet (dCall tuple1 (dCons (dSl (dVar 2) oNo (oSo (dUn negD (dC (.int 1))))) dNil))))))
def t_earliest_changes (sp_tupled sp_fewest_changes sp_back_starts : SpD) : TSD := (sSeq (sSet .va 1 (dFnN 1 sp_tupled (dCons (dVar 0) dNil)))
  (sSeq (sIf (bT (dUn isND (dFnN 1 sp_fewest_changes (dCons (dVar 1) dNil)))) (fun _ _ _ _ => False) sSkip)
  (sRet (dCall tuple1 (dCons (dSl (dFnN 2 sp_back_starts (dCons (dVar 1) (dCons (dCall len1 (dCons (dBin ixD (dVar 1) (dC (.int 1))) dNil)) dNil))) (oSo (dC (.int 1))) oNo) dNil)))))
def t_could_change (sp_earliest_changes sp_latest_changes : SpD) : TSD := (sRet (dCall anyL (dCons (dLc (iZipD (dCons (dFnN 1 sp_earliest_changes (dCons (dVar 0) dNil)) (dCons (dFnN 1 sp_latest_changes (dCons (dVar 0) dNil)) dNil))) (gT 2 (gsCons (gN 2) (gsCons (gN 3) gsNil))) yesD (dChain leD leD (dVar 2) (dVar 1) (dVar 3)) [2, 3]) dNil)))
def intsL (E : List Nat) : D := .lst (E.map fun e => D.int ((e : Nat) : Int))
def intsT (E : List Nat) : D := .tup (E.map fun e => D.int ((e : Nat) : Int))
noncomputable def sp_front_ends : SpD := fun ds c Q => ∃ n m L G, ds = [pieceT L G, .int (G.length : Nat)] ∧ PcOk n m L G ∧ (∀ E, Fr (fitB n m L G) G.length 0 E → Q (intsL E) c) ∧ ∀ a, a < G.length → fitB n m L G a (a + 1) = false → Q .non c
section
variable {n m : Nat} {L G : List Row} (ok : PcOk n m L G)
include ok
theorem grow_loop (N : Rho → Nat → Prop) (R : D → Nat → Prop) (c : Nat) (s2 : Sl) (a : Nat) : ∀ (k l : Nat), G.length < l + k → a ≤ l → l ≤ G.length → (∀ x, a < x → x ≤ l → fitB n m L G a x = true) →
    (∀ b, a ≤ b → b ≤ G.length → (∀ x, a < x → x ≤ b → fitB n m L G a x = true) → (b < G.length → fitB n m L G a (b + 1) = false) → N [.va (pieceT L G), .va (.int (G.length : Nat)), s2, .va (.int (a : Nat)), .va (.int (b : Nat))] c) →
    whT (dAnd (bT (dBin ltD (dVar 4) (dVar 1))) (bT (dFnN 3 sp_fits_between (dCons (dVar 0) (dCons (dVar 3) (dCons (dBin addD (dVar 4) (dC (.int 1))) dNil)))))) (sAug 4 (dC (.int 1)) (fun i j => i + j)) k [.va (pieceT L G), .va (.int (G.length : Nat)), s2, .va (.int (a : Nat)), .va (.int (l : Nat))] c N R := by
  intro k
  induction k with
  | zero => intro l h1 h2 h3 h4 h5; omega
  | succ k ih =>
    intro l h1 h2 h3 h4 h5
    by_cases hl : l < G.length
    · have e : ((l : Int) < (G.length : Int)) := by omega
      simp [whT, e]
      refine ⟨n, m, L, G, a, l + 1, by simp, ok, by omega, by omega, ?_⟩
      cases hf : fitB n m L G a (l + 1) with
      | true =>
        refine .inr ⟨rfl, ?_⟩
        have := ih (l + 1) (by omega) (by omega) (by omega) (fun x x1 x2 => by
          by_cases hx : x = l + 1
          · rw [hx]; exact hf
          · exact h4 x x1 (by omega)) h5
        simpa using this
      | false =>
        refine .inl ⟨rfl, ?_⟩
        exact h5 l h2 h3 h4 fun _ => hf
    · have e : ¬ ((l : Int) < (G.length : Int)) := by omega
      simp [whT, e]
      exact h5 l h2 h3 h4 fun z => absurd z hl
theorem ends_loop (N : Rho → Nat → Prop) (R : D → Nat → Prop) (c : Nat) (hR : ∀ a, a < G.length → fitB n m L G a (a + 1) = false → R .non c) : ∀ (k a : Nat) (acc : List Nat) (s4 : Sl), G.length < a + k → a ≤ G.length → acc.length ≤ a →
    (∀ E, Fr (fitB n m L G) G.length a E → ∀ s3 s4, N [.va (pieceT L G), .va (.int (G.length : Nat)), .ow ((acc ++ E).map fun e => D.int ((e : Nat) : Int)), s3, s4] c) →
    whT (bT (dBin ltD (dVar 3) (dVar 1))) (sSeq (sSet .va 4 (dVar 3))
      (sSeq (sWh (dAnd (bT (dBin ltD (dVar 4) (dVar 1))) (bT (dFnN 3 sp_fits_between (dCons (dVar 0) (dCons (dVar 3) (dCons (dBin addD (dVar 4) (dC (.int 1))) dNil)))))) (sAug 4 (dC (.int 1)) (fun i j => i + j)))
      (sSeq (sIf (bT (dBin eqD (dVar 4) (dVar 3))) (sRet (dC .non)) sSkip)
      (sSeq (sApp 2 (dVar 4))
      (sSet .va 3 (dVar 4)))))) k [.va (pieceT L G), .va (.int (G.length : Nat)), .ow (acc.map fun e => D.int ((e : Nat) : Int)), .va (.int (a : Nat)), s4] c N R := by
  intro k
  induction k with
  | zero => intro a acc s4 h1 h2 h3 h4; omega
  | succ k ih =>
    intro a acc s4 h1 h2 h3 h4
    have few := ok.few
    by_cases ha : a < G.length
    · have e : ((a : Int) < (G.length : Int)) := by omega
      simp [whT, e]
      refine ⟨G.length + 1, grow_loop ok _ R c _ a (G.length + 1) a (by omega) (Nat.le_refl _) (by omega) (fun x x1 x2 => by omega) fun b b1 b2 b3 b4 => ?_⟩
      by_cases hb : b = a
      · subst hb
        simp
        exact hR b ha (b4 ha)
      · have e2 : ¬ ((b : Int) = (a : Int)) := by omega
        simp [e2]
        refine ⟨by omega, ?_⟩
        have := ih b (acc ++ [b]) (.va (.int (b : Nat))) (by omega) b2 (by simp; omega) fun E hE s3 s4 => by
          have := h4 (b :: E) (.cons (by omega) b2 b3 b4 hE) s3 s4
          simpa using this
        simpa using this
    · have e : ¬ ((a : Int) < (G.length : Int)) := by omega
      simp [whT, e]
      have ea : a = G.length := by omega
      subst ea
      have := h4 [] .nil (.va (.int (G.length : Nat))) s4
      simpa using this
end
theorem hs_front_ends (ds : List D) (c : Nat) (Q : D → Nat → Prop) (h : sp_front_ends ds c Q) : t_front_ends sp_fits_between (startR ["piece", "size", "found", "first", "last"] ds) c (fun _ c' => Q .non c') Q := by
  obtain ⟨n, m, L, G, rfl, ok, h1, h2⟩ := h
  simp only [t_front_ends, startR, sSeq, sPar, dLst, dNil, dC, Kd.sl, sWh, List.map, List.length, List.replicate, List.append, List.set, HAppend.hAppend, Append.append]
  refine ⟨by decide, G.length + 1, ?_⟩
  have := ends_loop ok (fun ρ c => sFrz 2 (sRet (dVar 2)) ρ c (fun _ c' => Q .non c') Q) Q c h2 (G.length + 1) 0 [] .no (by omega) (Nat.zero_le _) (Nat.le_refl _) fun E hE s3 s4 => by
    simpa [intsL] using h1 E hE
  simpa using this
noncomputable def sp_back_starts : SpD := fun ds c Q => ∃ n m L G, ds = [pieceT L G, .int (G.length : Nat)] ∧ PcOk n m L G ∧ (∀ a, a < G.length → fitB n m L G a (a + 1) = true) ∧ ∀ E, Bk (fitB n m L G) G.length E → Q (intsL E.reverse) c
section
variable {n m : Nat} {L G : List Row} (ok : PcOk n m L G)
include ok
theorem shrink_loop (N : Rho → Nat → Prop) (R : D → Nat → Prop) (c : Nat) (s2 : Sl) (z : Nat) (hz : z ≤ G.length) : ∀ (k l : Nat), l < k → l < z → (∀ x, l ≤ x → x < z → fitB n m L G x z = true) →
    (∀ b, b < z → (∀ x, b ≤ x → x < z → fitB n m L G x z = true) → (0 < b → fitB n m L G (b - 1) z = false) → N [.va (pieceT L G), .va (.int (G.length : Nat)), s2, .va (.int (z : Nat)), .va (.int (b : Nat))] c) →
    whT (dAnd (bT (dBin gtD (dVar 4) (dC (.int 0)))) (bT (dFnN 3 sp_fits_between (dCons (dVar 0) (dCons (dBin subD (dVar 4) (dC (.int 1))) (dCons (dVar 3) dNil)))))) (sAug 4 (dC (.int 1)) (fun i j => i - j)) k [.va (pieceT L G), .va (.int (G.length : Nat)), s2, .va (.int (z : Nat)), .va (.int (l : Nat))] c N R := by
  intro k
  induction k with
  | zero => intro l h1; omega
  | succ k ih =>
    intro l h1 h2 h4 h5
    by_cases hl : 0 < l
    · have e : ((l : Int) > 0) := by omega
      have e1 : (l : Int) - 1 = ((l - 1 : Nat) : Int) := by omega
      simp [whT, hl]
      refine ⟨n, m, L, G, l - 1, z, by simp; omega, ok, by omega, by omega, ?_⟩
      cases hf : fitB n m L G (l - 1) z with
      | true =>
        refine .inr ⟨rfl, ?_⟩
        have := ih (l - 1) (by omega) (by omega) (fun x x1 x2 => by
          by_cases hx : x = l - 1
          · rw [hx]; exact hf
          · exact h4 x (by omega) x2) h5
        rw [e1]
        exact this
      | false =>
        refine .inl ⟨rfl, ?_⟩
        exact h5 l h2 h4 fun _ => hf
    · simp [whT, hl]
      exact h5 l h2 h4 fun z => absurd z hl
theorem starts_loop (hall : ∀ a, a < G.length → fitB n m L G a (a + 1) = true) (N : Rho → Nat → Prop) (R : D → Nat → Prop) (c : Nat) : ∀ (k z : Nat) (acc : List Nat) (s4 : Sl), z < k → z ≤ G.length → acc.length + z ≤ G.length →
    (∀ E, Bk (fitB n m L G) z E → ∀ s3 s4, N [.va (pieceT L G), .va (.int (G.length : Nat)), .ow ((acc ++ E).map fun e => D.int ((e : Nat) : Int)), s3, s4] c) →
    whT (bT (dBin gtD (dVar 3) (dC (.int 0)))) (sSeq (sSet .va 4 (dBin subD (dVar 3) (dC (.int 1))))
      (sSeq (sWh (dAnd (bT (dBin gtD (dVar 4) (dC (.int 0)))) (bT (dFnN 3 sp_fits_between (dCons (dVar 0) (dCons (dBin subD (dVar 4) (dC (.int 1))) (dCons (dVar 3) dNil)))))) (sAug 4 (dC (.int 1)) (fun i j => i - j)))
      (sSeq (sApp 2 (dVar 4))
      (sSet .va 3 (dVar 4))))) k [.va (pieceT L G), .va (.int (G.length : Nat)), .ow (acc.map fun e => D.int ((e : Nat) : Int)), .va (.int (z : Nat)), s4] c N R := by
  intro k
  induction k with
  | zero => intro z acc s4 h1; omega
  | succ k ih =>
    intro z acc s4 h1 h2 h3 h4
    have few := ok.few
    by_cases hz : 0 < z
    · have e1 : (z : Int) - 1 = ((z - 1 : Nat) : Int) := by omega
      simp [whT, hz]
      refine ⟨G.length + 1, ?_⟩
      rw [e1]
      refine shrink_loop ok _ R c _ z h2 (G.length + 1) (z - 1) (by omega) (by omega) (fun x x1 x2 => ?_) fun b b1 b3 b4 => ?_
      · have ex : x = z - 1 := by omega
        subst ex
        have := hall (z - 1) (by omega)
        rwa [show z - 1 + 1 = z by omega] at this
      · simp
        refine ⟨by omega, ?_⟩
        have := ih b (acc ++ [b]) (.va (.int (b : Nat))) (by omega) (by omega) (by simp; omega) fun E hE s3 s4 => by
          have := h4 (b :: E) (.cons b1 b3 b4 hE) s3 s4
          simpa using this
        simpa using this
    · simp [whT, hz]
      have ez : z = 0 := by omega
      subst ez
      have := h4 [] .nil (.va (.int 0)) s4
      simpa using this
end
theorem hs_back_starts (ds : List D) (c : Nat) (Q : D → Nat → Prop) (h : sp_back_starts ds c Q) : t_back_starts sp_fits_between (startR ["piece", "size", "found", "last", "first"] ds) c (fun _ c' => Q .non c') Q := by
  obtain ⟨n, m, L, G, rfl, ok, h1, h2⟩ := h
  simp only [t_back_starts, startR, sSeq, sPar, dLst, dNil, dC, dVar, Kd.sl, sWh, List.map, List.length, List.replicate, List.append, List.set, HAppend.hAppend, Append.append, List.getElem?_cons_zero, List.getElem?_cons_succ, Option.some.injEq, Sl.va.injEq, exists_eq_left']
  refine ⟨by decide, G.length + 1, ?_⟩
  have := starts_loop ok h1 (fun ρ c => sRet (dUn revD (dOwn 2)) ρ c (fun _ c' => Q .non c') Q) Q c (G.length + 1) G.length [] .no (by omega) (Nat.le_refl _) (by simp) fun E hE s3 s4 => by
    simpa [intsL] using h2 E hE
  simpa using this
end Pd
end
section
set_option Elab.async false
set_option linter.all false
set_option maxRecDepth 100000
/-! PS9: fewest, latest, earliest, could, sure. -/
namespace Pd
open Ma L2 Mc
def AllFit (n m : Nat) (L G : List Row) : Prop := ∀ a, a < G.length → fitB n m L G a (a + 1) = true
noncomputable def sp_fewest_changes : SpD := fun ds c Q => ∃ n m L G d, ds = [d] ∧ IsPc d L G ∧ PcOk n m L G ∧ (∀ E, Fr (fitB n m L G) G.length 0 E → Q (.int ((E.length : Int) - 1)) c) ∧ ∀ a, a < G.length → fitB n m L G a (a + 1) = false → Q .non c
theorem at1 (a b : D) : atI [a, b] 1 = some b := rfl
theorem hs_fewest_changes {k : Nat} (ds : List D) (c : Nat) (Q : D → Nat → Prop) (h : sp_fewest_changes ds c Q) : t_fewest_changes (sp_tupled (k + 4)) sp_front_ends (startR ["piece", "own", "ends"] ds) c (fun _ c' => Q .non c') Q := by
  obtain ⟨n, m, L, G, d, rfl, pc, ok, h1, h2⟩ := h
  obtain ⟨o1, o2⟩ := isPc_ok k pc ok.fewL ok.fewG
  simp [t_fewest_changes]
  refine ⟨d, rfl, o1, ?_⟩
  rw [o2]
  simp [pieceT, at1, rowsT]
  refine ⟨n, m, L, G, rfl, ok, fun E hE => ?_, fun a ha hf => ?_⟩
  · have := h1 E hE
    simpa [intsL, D.isN] using this
  · have := h2 a ha hf
    simpa [D.isN] using this
noncomputable def sp_latest_changes : SpD := fun ds c Q => ∃ n m L G d, ds = [d] ∧ IsPc d L G ∧ PcOk n m L G ∧ AllFit n m L G ∧ ∀ E, Fr (fitB n m L G) G.length 0 E → Q (intsT E.dropLast) c
theorem cut_init (l : List D) : cutD l none (some (-1)) = l.dropLast := by
  unfold cutD
  rw [HT.sIx_none]
  have e : HT.sIx l.length l.length (some (-1)) = l.length - 1 := by
    unfold HT.sIx
    simp
    omega
  rw [e]
  simp [List.dropLast_eq_take]
theorem hs_latest_changes {k : Nat} (ds : List D) (c : Nat) (Q : D → Nat → Prop) (h : sp_latest_changes ds c Q) : t_latest_changes (sp_tupled (k + 4)) sp_front_ends (startR ["piece", "own", "ends"] ds) c (fun _ c' => Q .non c') Q := by
  obtain ⟨n, m, L, G, d, rfl, pc, ok, al, h1⟩ := h
  obtain ⟨o1, o2⟩ := isPc_ok k pc ok.fewL ok.fewG
  simp [t_latest_changes]
  refine ⟨d, rfl, o1, ?_⟩
  rw [o2]
  simp [pieceT, at1, rowsT]
  refine ⟨n, m, L, G, rfl, ok, fun E hE => ?_, fun a ha hf => ?_⟩
  · have := h1 E hE
    simpa [intsL, intsT, D.isN, cut_init, List.map_dropLast] using this
  · rw [al a ha] at hf
    cases hf
noncomputable def sp_earliest_changes : SpD := fun ds c Q => ∃ n m L G d, ds = [d] ∧ IsPc d L G ∧ PcOk n m L G ∧ AllFit n m L G ∧ ∀ D, Bk (fitB n m L G) G.length D → Q (intsT D.reverse.tail) c
theorem hs_earliest_changes {k : Nat} (ds : List D) (c : Nat) (Q : D → Nat → Prop) (h : sp_earliest_changes ds c Q) : t_earliest_changes (sp_tupled (k + 4)) sp_fewest_changes sp_back_starts (startR ["piece", "own"] ds) c (fun _ c' => Q .non c') Q := by
  obtain ⟨n, m, L, G, d, rfl, pc, ok, al, h1⟩ := h
  obtain ⟨o1, o2⟩ := isPc_ok k pc ok.fewL ok.fewG
  simp [t_earliest_changes]
  refine ⟨d, rfl, o1, ?_⟩
  rw [o2]
  refine ⟨n, m, L, G, _, rfl, .inl rfl, ok, fun E hE => ?_, fun a ha hf => ?_⟩
  · simp [D.isN, pieceT, at1, rowsT]
    refine ⟨n, m, L, G, rfl, ok, al, fun E hE => ?_⟩
    have := h1 E hE
    simpa [intsL, intsT, cut1, List.map_tail] using this
  · rw [al a ha] at hf
    cases hf
def couldB (E D : List Nat) (k : Int) : Bool := (D.reverse.tail.zip E.dropLast).any fun p => decide ((p.1 : Int) ≤ k) && decide (k ≤ (p.2 : Int))
noncomputable def sp_could_change : SpD := fun ds c Q => ∃ n m L G d k, ds = [d, .int k] ∧ IsPc d L G ∧ PcOk n m L G ∧ AllFit n m L G ∧ ∀ E D, Fr (fitB n m L G) G.length 0 E → Bk (fitB n m L G) G.length D → Q (.bl (couldB E D k)) c
theorem fr_len {F : Nat → Nat → Bool} {N a : Nat} {E : List Nat} (h : Fr F N a E) : E.length + a ≤ N := by
  induction h with
  | nil => simp
  | cons h1 h2 _ _ _ ih => simp only [List.length_cons]; omega
theorem bk_len {F : Nat → Nat → Bool} {a : Nat} {E : List Nat} (h : Bk F a E) : E.length ≤ a := by
  induction h with
  | nil => simp
  | cons h1 _ _ _ ih => simp only [List.length_cons]; omega
theorem hs_could_change (ds : List D) (c : Nat) (Q : D → Nat → Prop) (h : sp_could_change ds c Q) : t_could_change sp_earliest_changes sp_latest_changes (startR ["piece", "tick", "low", "high"] ds) c (fun _ c' => Q .non c') Q := by
  obtain ⟨n, m, L, G, d, k, rfl, pc, ok, al, h1⟩ := h
  simp only [t_could_change, startR, sRet, dCall, dCons, dNil, dLc, iZipD, dFnN, dVar, List.map, List.length, List.replicate, List.append, HAppend.hAppend, Append.append, List.getElem?_cons_zero, List.getElem?_cons_succ, Option.some.injEq, Sl.va.injEq, exists_eq_left']
  refine ⟨by trivial, n, m, L, G, d, rfl, pc, ok, al, fun B hD => ⟨by trivial, n, m, L, G, d, rfl, pc, ok, al, fun E hE => ?_⟩⟩
  have few := ok.few
  have l1 := bk_len hD
  have l2 := fr_len hE
  simp only [intsT, zipD_map, forgetR, List.set]
  refine ⟨by rw [List.length_map, List.length_zip, List.length_tail, List.length_reverse]; omega, lc_map _ (fun p : Nat × Nat => D.bl (decide ((p.1 : Int) ≤ k) && decide (k ≤ (p.2 : Int)))) _ _ _ (fun p hp Q' q => ?_) ?_⟩
  · by_cases hk : (p.1 : Int) ≤ k
    · simpa [hk] using q
    · simpa [hk] using q
  · refine ⟨(B.reverse.tail.zip E.dropLast).map fun p => decide ((p.1 : Int) ≤ k) && decide (k ≤ (p.2 : Int)), by simp [List.map_map, Function.comp_def], ?_⟩
    have := h1 E B hE hD
    unfold couldB at this
    rw [List.any_map]
    exact this
def sp_parts_around : SpD := fun ds c Q => ∃ (E S : List Nat) (low high N : Nat), ds = [intsL E, intsL S, .int (low : Nat), .int (high : Nat), .int (N : Nat)] ∧ E.length ≤ 1000 ∧ S.length ≤ 1000 ∧
  Q (.int (((if low = 0 then 0 else 1 + (E.filter (· < low)).length) + 1 + (if high = N then 0 else 1 + (S.filter (high < ·)).length) : Nat) : Int)) c
theorem hs_parts_around (ds : List D) (c : Nat) (Q : D → Nat → Prop) (h : sp_parts_around ds c Q) : t_parts_around (startR ["ends", "starts", "low", "high", "size", "ahead", "end", "start"] ds) c (fun _ c' => Q .non c') Q := by
  obtain ⟨E, S, low, high, N, rfl, hE, hS, h⟩ := h
  have right : ∀ (Q2 : D → Nat → Prop) (s5 s6 : Sl), Q2 (.int ((if high = N then 0 else 1 + (S.filter (high < ·)).length : Nat) : Int)) c →
      dIf (bT (dBin eqD (dVar 3) (dVar 4))) (dC (.int 0)) (dBin addD (dC (.int 1)) (dCall len1 (dCons (dLc (iSeq (dVar 1)) (gN 7) (bT (dBin gtD (dVar 7) (dVar 3))) (dVar 7) [7]) dNil)))
        [.va (intsL E), .va (intsL S), .va (.int (low : Nat)), .va (.int (high : Nat)), .va (.int (N : Nat)), s5, s6, .no] c Q2 := fun Q2 s5 s6 q => by
    by_cases e : high = N
    · subst e
      simpa using q
    · have e' : ¬ ((high : Int) = (N : Int)) := by omega
      simp [e', intsL]
      refine ⟨by omega, lc_filt (fun e : Nat => D.int ((e : Nat) : Int)) (fun e => D.int ((e : Nat) : Int)) (fun e => decide (high < e)) _ _ _ (fun _ _ _ _ _ => trivial) (fun x hx Q' Nx q1 q2 => ?_) ?_⟩
      · by_cases hx2 : high < x
        · simpa [hx2] using q1 (by simpa using hx2)
        · simpa [hx2] using q2 (by simpa using hx2)
      · simpa [e] using q
  have left : ∀ (Q2 : D → Nat → Prop), Q2 (.int ((if low = 0 then 0 else 1 + (E.filter (· < low)).length : Nat) : Int)) c →
      dIf (bT (dBin eqD (dVar 2) (dC (.int 0)))) (dC (.int 0)) (dBin addD (dC (.int 1)) (dCall len1 (dCons (dLc (iSeq (dVar 0)) (gN 6) (bT (dBin ltD (dVar 6) (dVar 2))) (dVar 6) [6]) dNil)))
        [.va (intsL E), .va (intsL S), .va (.int (low : Nat)), .va (.int (high : Nat)), .va (.int (N : Nat)), .no, .no, .no] c Q2 := fun Q2 q => by
    by_cases e : low = 0
    · subst e
      simpa using q
    · have e' : ¬ ((low : Int) = 0) := by omega
      simp [e, intsL]
      refine ⟨by omega, lc_filt (fun e : Nat => D.int ((e : Nat) : Int)) (fun e => D.int ((e : Nat) : Int)) (fun e => decide (e < low)) _ _ _ (fun _ _ _ _ _ => trivial) (fun x hx Q' Nx q1 q2 => ?_) ?_⟩
      · by_cases hx2 : x < low
        · simpa [hx2] using q1 (by simpa using hx2)
        · simpa [hx2] using q2 (by simpa using hx2)
      · simpa [e] using q
  simp only [t_parts_around, startR, sSeq, sSet, List.map, List.length, List.replicate, List.append, HAppend.hAppend, Append.append]
  refine left _ ?_
  simp only [sRet, dBin, dVar, dC, Kd.sl, List.set, List.getElem?_cons_zero, List.getElem?_cons_succ, Option.some.injEq, Sl.va.injEq, exists_eq_left', addD]
  refine right _ _ _ ?_
  simpa [addD] using h
end Pd
end
section
set_option Elab.async false
set_option linter.all false
set_option maxRecDepth 100000
/-! PT0: sure_change. -/
namespace Pd
open Ma L2 Mc
def SureEx (F : Nat → Nat → Bool) (N : Nat) (E B : List Nat) (first last : Int) : Prop := ∃ low high : Nat, low < high ∧ high ≤ N ∧ (low = 0 ∨ (low : Int) ≤ first) ∧ (high = N ∨ last < (high : Int)) ∧ around E B low high N = E.length ∧ F low high = true
noncomputable def sp_sure_change : SpD := fun ds c Q => ∃ n m L G d first last, ds = [d, .int first, .int last] ∧ IsPc d L G ∧ PcOk n m L G ∧ AllFit n m L G ∧
  ∀ E B, Fr (fitB n m L G) G.length 0 E → Bk (fitB n m L G) G.length B → (SureEx (fitB n m L G) G.length E B first last → Q (.bl false) c) ∧ (¬SureEx (fitB n m L G) G.length E B first last → Q (.bl true) c)
section
variable {n m : Nat} {L G : List Row} (ok : PcOk n m L G) {E B : List Nat} (hE : E.length ≤ 1000) (hB : B.length ≤ 1000)
include ok hE hB
theorem sure_in (N : Rho → Nat → Prop) (R : D → Nat → Prop) (c : Nat) (s0 s1 s2 s8 : Sl) (low : Nat) : ∀ (hs : List Nat) (s9 : Sl), (∀ h ∈ hs, low < h ∧ h ≤ G.length) →
    ((∀ h ∈ hs, ¬ (around E B low h G.length = E.length ∧ fitB n m L G low h = true)) → ∀ s9, N [s0, s1, s2, .va (pieceT L G), .va (.int (G.length : Nat)), .va (intsL E), .va (intsL B.reverse), .va (.int (low : Nat)), s8, s9] c) →
    (∀ h ∈ hs, around E B low h G.length = E.length ∧ fitB n m L G low h = true → R (.bl false) c) →
    forT (gN 9) (sIf (dAnd (bT (dBin eqD (dFnN 5 sp_parts_around (dCons (dVar 5) (dCons (dVar 6) (dCons (dVar 7) (dCons (dVar 9) (dCons (dVar 4) dNil)))))) (dCall len1 (dCons (dVar 5) dNil)))) (bT (dFnN 3 sp_fits_between (dCons (dVar 3) (dCons (dVar 7) (dCons (dVar 9) dNil)))))) (sRet (dC (.bl false))) sSkip)
      (hs.map fun h => D.int ((h : Nat) : Int)) [s0, s1, s2, .va (pieceT L G), .va (.int (G.length : Nat)), .va (intsL E), .va (intsL B.reverse), .va (.int (low : Nat)), s8, s9] c N R
  | [], s9, _, h, _ => h (fun _ z => nomatch z) s9
  | h :: hs, s9, hh, hn, hr => by
    obtain ⟨h1, h2⟩ := hh h List.mem_cons_self
    have ih := fun s9 => fun (k : ¬ (around E B low h G.length = E.length ∧ fitB n m L G low h = true)) => sure_in N R c s0 s1 s2 s8 low hs s9 (fun x hx => hh x (List.mem_cons_of_mem _ hx)) (fun q => hn fun x hx => by
      rcases List.mem_cons.mp hx with e | hx
      · rw [e]; exact k
      · exact q x hx) (fun x hx => hr x (List.mem_cons_of_mem _ hx))
    simp only [List.map_cons, forT, gN, sIf, dAnd, bT, dBin, dFnN, dCall, dCons, dNil, dVar, List.set, List.getElem?_cons_zero, List.getElem?_cons_succ, Option.some.injEq, Sl.va.injEq, exists_eq_left', List.length]
    refine ⟨by trivial, E, B.reverse, low, h, G.length, rfl, hE, by simpa using hB, ?_⟩
    have er : (B.reverse.filter (h < ·)).length = (B.filter (h < ·)).length := by rw [List.filter_reverse, List.length_reverse]
    rw [er]
    have ea : ((if low = 0 then 0 else 1 + (E.filter (· < low)).length) + 1 + (if h = G.length then 0 else 1 + (B.filter (h < ·)).length)) = around E B low h G.length := rfl
    rw [ea]
    simp only [intsL, len1, List.length_map, eqD_int]
    refine ⟨_, rfl, ?_⟩
    by_cases e : around E B low h G.length = E.length
    · rw [decide_eq_true (by omega)]
      simp only [if_true]
      refine ⟨by trivial, n, m, L, G, low, h, rfl, ok, h1, h2, _, rfl, ?_⟩
      cases hf : fitB n m L G low h with
      | true =>
        simp
        exact hr h List.mem_cons_self ⟨e, hf⟩
      | false =>
        simp
        have := ih (.va (.int (h : Nat))) (fun z => by rw [hf] at z; cases z.2)
        simpa [intsL] using this
    · rw [decide_eq_false (by omega)]
      simp
      have := ih (.va (.int (h : Nat))) (fun z => e z.1)
      simpa [intsL] using this
def hiL (N : Nat) (last : Int) (low : Nat) : List Nat := ((List.range (N - low)).map fun i => low + 1 + i).filter fun t => decide (t = N) || decide (last < (t : Int))
omit ok hE hB in
theorem hiL_mem {N : Nat} {last : Int} {low h : Nat} (hl : low < N) : h ∈ hiL N last low ↔ low < h ∧ h ≤ N ∧ (h = N ∨ last < (h : Int)) := by
  unfold hiL
  rw [List.mem_filter, List.mem_map]
  simp only [List.mem_range, Bool.or_eq_true, decide_eq_true_eq]
  constructor
  · rintro ⟨⟨i, hi, rfl⟩, h2⟩
    exact ⟨by omega, by omega, h2⟩
  · rintro ⟨h1, h2, h3⟩
    exact ⟨⟨h - low - 1, by omega, by omega⟩, h3⟩
omit hE hB in
theorem hi_lc {ρ : Rho} {N : Nat} {last : Int} {low : Nat} (c : Nat) (Q : List D → Nat → Prop) (s0 s1 s3 s5 s6 s7 s9 : Sl) (hl : low < N) (h : Q ((hiL N last low).map fun t => D.int ((t : Nat) : Int)) c) :
    lcT (gN 8) (dOr (bT (dBin eqD (dVar 8) (dVar 4))) (bT (dBin gtD (dVar 8) (dVar 2)))) (dVar 8) (ivs ((low : Int) + 1) ((N : Int) + 1)) [s0, s1, .va (.int last), s3, .va (.int (N : Nat)), s5, s6, s7, .no, s9] c [] Q := by
  have e : ivs ((low : Int) + 1) ((N : Int) + 1) = ((List.range (N - low)).map fun i => low + 1 + i).map fun t => D.int ((t : Nat) : Int) := by
    unfold ivs
    rw [List.map_map, show ((N : Int) + 1 - ((low : Int) + 1)).toNat = N - low by omega]
    exact List.map_congr_left fun i _ => by simp
  rw [e]
  refine lc_filt _ (fun t : Nat => D.int ((t : Nat) : Int)) (fun t => decide (t = N) || decide (last < (t : Int))) _ _ _ (fun _ _ _ _ _ => trivial) (fun x hx Q' Nx q1 q2 => ?_) ?_
  · by_cases e1 : x = N
    · have := q1 (by simp [e1])
      simpa [e1] using this
    · have e1' : ¬ ((x : Int) = (N : Int)) := by omega
      by_cases e2 : last < (x : Int)
      · have := q1 (by simp [e2])
        simpa [e1', e2] using this
      · have := q2 (by simp [e1, e2])
        simpa [e1', e2] using this
  · simpa [hiL] using h
theorem sure_out (N : Rho → Nat → Prop) (R : D → Nat → Prop) (c : Nat) (s0 s1 : Sl) (last : Int) : ∀ (ls : List Nat) (s7 s8 s9 : Sl), (∀ l ∈ ls, l < G.length) →
    ((∀ l ∈ ls, ∀ h ∈ hiL G.length last l, ¬ (around E B l h G.length = E.length ∧ fitB n m L G l h = true)) → ∀ s7 s8 s9, N [s0, s1, .va (.int last), .va (pieceT L G), .va (.int (G.length : Nat)), .va (intsL E), .va (intsL B.reverse), s7, s8, s9] c) →
    (∀ l ∈ ls, ∀ h ∈ hiL G.length last l, around E B l h G.length = E.length ∧ fitB n m L G l h = true → R (.bl false) c) →
    forT (gN 7) (sFor (iSeq (dLc (iRange2 (dCons (dBin addD (dVar 7) (dC (.int 1))) (dCons (dBin addD (dVar 4) (dC (.int 1))) dNil))) (gN 8) (dOr (bT (dBin eqD (dVar 8) (dVar 4))) (bT (dBin gtD (dVar 8) (dVar 2)))) (dVar 8) [8])) (gN 9) (sIf (dAnd (bT (dBin eqD (dFnN 5 sp_parts_around (dCons (dVar 5) (dCons (dVar 6) (dCons (dVar 7) (dCons (dVar 9) (dCons (dVar 4) dNil)))))) (dCall len1 (dCons (dVar 5) dNil)))) (bT (dFnN 3 sp_fits_between (dCons (dVar 3) (dCons (dVar 7) (dCons (dVar 9) dNil)))))) (sRet (dC (.bl false))) sSkip))
      (ls.map fun h => D.int ((h : Nat) : Int)) [s0, s1, .va (.int last), .va (pieceT L G), .va (.int (G.length : Nat)), .va (intsL E), .va (intsL B.reverse), s7, s8, s9] c N R
  | [], s7, s8, s9, _, h, _ => h (fun _ z => nomatch z) s7 s8 s9
  | l :: ls, s7, s8, s9, hl, hn, hr => by
    have few := ok.few
    have h1 := hl l List.mem_cons_self
    have ih := fun s7 s8 s9 => fun (k : ∀ h ∈ hiL G.length last l, ¬ (around E B l h G.length = E.length ∧ fitB n m L G l h = true)) => sure_out N R c s0 s1 last ls s7 s8 s9 (fun x hx => hl x (List.mem_cons_of_mem _ hx)) (fun q => hn fun x hx => by
      rcases List.mem_cons.mp hx with e | hx
      · rw [e]; exact k
      · exact q x hx) (fun x hx => hr x (List.mem_cons_of_mem _ hx))
    simp only [List.map_cons, forT, gN, sFor, iSeq, dLc, iRange2, dBin, dC, addD, dCons, dNil, dVar, List.set, List.getElem?_cons_zero, List.getElem?_cons_succ, Option.some.injEq, Sl.va.injEq, exists_eq_left', forgetR]
    refine ⟨by omega, by simp [ivs]; omega, hi_lc ok (ρ := []) c _ _ _ _ _ _ _ _ h1 ?_⟩
    refine sure_in ok hE hB _ R c s0 s1 _ s8 l (hiL G.length last l) s9 (fun x hx => by
      obtain ⟨a, b, _⟩ := (hiL_mem h1).mp hx
      exact ⟨a, b⟩) (fun k s9' => ih (.va (.int (l : Nat))) s8 s9' k) (fun x hx => hr l List.mem_cons_self x hx)
end
theorem hs_sure_change {k : Nat} (ds : List D) (c : Nat) (Q : D → Nat → Prop) (h : sp_sure_change ds c Q) : t_sure_change (sp_tupled (k + 4)) sp_front_ends sp_back_starts sp_parts_around sp_fits_between (startR ["piece", "first", "last", "own", "size", "ends", "starts", "low", "tick", "high"] ds) c (fun _ c' => Q .non c') Q := by
  obtain ⟨n, m, L, G, d, first, last, rfl, pc, ok, al, h1⟩ := h
  obtain ⟨o1, o2⟩ := isPc_ok k pc ok.fewL ok.fewG
  have few := ok.few
  simp only [t_sure_change, startR, sSeq, sSet, dFnN, dCall, dCons, dNil, dVar, Kd.sl, List.map, List.length, List.replicate, List.append, List.set, HAppend.hAppend, Append.append, List.getElem?_cons_zero, List.getElem?_cons_succ, Option.some.injEq, Sl.va.injEq, exists_eq_left']
  refine ⟨by trivial, d, rfl, o1, ?_⟩
  rw [o2]
  simp only [dBin, dVar, dC, List.getElem?_cons_zero, List.getElem?_cons_succ, Option.some.injEq, Sl.va.injEq, exists_eq_left', pieceT, ixD, at1, rowsT, len1, List.length_map]
  refine ⟨by trivial, n, m, L, G, rfl, ok, fun E hE => ?_, fun a ha hf => by rw [al a ha] at hf; cases hf⟩
  simp only [sIf, bT, dUn, dVar, isND, intsL, D.isN, List.getElem?_cons_zero, List.getElem?_cons_succ, Option.some.injEq, Sl.va.injEq, exists_eq_left', D.bl.injEq, Bool.false_eq_true, if_false, sSkip]
  refine ⟨by trivial, n, m, L, G, rfl, ok, al, fun B hB => ?_⟩
  obtain ⟨y1, y2⟩ := h1 E B hE hB
  have lE := fr_len hE
  have lB := bk_len hB
  simp only [sFor, iSeq, dLc, iRange1, dCons, dNil, dVar, List.getElem?_cons_zero, List.getElem?_cons_succ, Option.some.injEq, Sl.va.injEq, exists_eq_left', forgetR, List.set]
  rw [ivs_nat]
  refine ⟨by omega, by omega, by simp; omega, lc_filt _ (fun t : Nat => D.int ((t : Nat) : Int)) (fun t => decide (t = 0) || decide ((t : Int) ≤ first)) _ _ _ (fun _ _ _ _ _ => trivial) (fun x hx Q' Nx q1 q2 => ?_) ?_⟩
  · by_cases e1 : x = 0
    · have := q1 (by simp [e1])
      simpa [e1] using this
    · have e1' : ¬ ((x : Int) = 0) := by omega
      by_cases e2 : (x : Int) ≤ first
      · have := q1 (by simp [e2])
        simpa [e1, e2] using this
      · have := q2 (by simp [e1, e2])
        simpa [e1, e2] using this
  · simp only [List.nil_append]
    have := sure_out ok (E := E) (B := B) (by omega) (by omega) (fun ρ c => sRet (dC (.bl true)) ρ c (fun _ c' => Q .non c') Q) Q c (.va d) (.va (.int first)) last ((List.range G.length).filter fun t => decide (t = 0) || decide ((t : Int) ≤ first)) .no .no .no (fun l hl => List.mem_range.mp (List.mem_filter.mp hl).1)
      (fun q s7 s8 s9 => y2 fun ⟨low, high, a1, a2, a3, a4, a5, a6⟩ => q low (List.mem_filter.mpr ⟨List.mem_range.mpr (by omega), by simpa using a3⟩) high ((hiL_mem (by omega)).mpr ⟨a1, a2, a4⟩) ⟨a5, a6⟩)
      (fun l hl h hh a => y1 (by
        obtain ⟨m1, m2⟩ := List.mem_filter.mp hl
        have l1 := List.mem_range.mp m1
        obtain ⟨k1, k2, k3⟩ := (hiL_mem l1).mp hh
        exact ⟨l, h, k1, k2, by simpa using m2, k3, a⟩))
    simpa [intsL, pieceT, rowsT] using this
end Pd
end
section
set_option Elab.async false
set_option linter.all false
set_option maxRecDepth 100000
/-! PT1: the law's rows: dot, both_rows, next, on, idle, struck, steps, rank, goes. -/
namespace Pd
open Ma L2
def t_law_dot (sp_law_sum sp_law_mul : SpD) : TSD := (sSeq (sSet .va 2 (dTup (dCons (dC (.int 0)) (dCons (dC (.int 1)) dNil))))
  (sSeq (sFor (iZipD (dCons (dVar 0) (dCons (dVar 1) dNil))) (gT 2 (gsCons (gN 3) (gsCons (gN 4) gsNil))) (sIf (dAnd (bT (dBin neD (dBin ixD (dVar 3) (dC (.int 0))) (dC (.int 0)))) (bT (dBin neD (dBin ixD (dVar 4) (dC (.int 0))) (dC (.int 0))))) (sSet .va 2 (dFnN 2 sp_law_sum (dCons (dVar 2) (dCons (dFnN 2 sp_law_mul (dCons (dVar 3) (dCons (dVar 4) dNil))) dNil)))) sSkip))
  (sRet (dVar 2))))
def t_law_both_rows (sp_law_sum : SpD) : TSD := (sRet (dCall tuple1 (dCons (dLc (iZipD (dCons (dVar 0) (dCons (dVar 1) dNil))) (gT 2 (gsCons (gN 2) (gsCons (gN 3) gsNil))) yesD (dFnN 2 sp_law_sum (dCons (dVar 2) (dCons (dVar 3) dNil))) [2, 3]) dNil)))
def t_law_next (sp_law_dot : SpD) : TSD := (sRet (dCall tuple1 (dCons (dLc (iSeq (dVar 0)) (gN 2) yesD (dFnN 2 sp_law_dot (dCons (dVar 2) (dCons (dVar 1) dNil))) [2]) dNil)))
def t_law_on (sp_law_both_rows sp_law_next : SpD) : TSD := (sRet (dFnN 2 sp_law_both_rows (dCons (dFnN 2 sp_law_next (dCons (dBin ixD (dVar 0) (dC (.int 0))) (dCons (dVar 1) dNil))) (dCons (dFnN 2 sp_law_next (dCons (dBin ixD (dVar 0) (dC (.int 1))) (dCons (dVar 2) dNil))) dNil))))
def t_law_idle : TSD := (sRet (dBin repD (dTup (dCons (dTup (dCons (dC (.int 0)) (dCons (dC (.int 1)) dNil))) dNil)) (dVar 0)))
def t_law_struck (sp_law_less_by sp_law_mul : SpD) : TSD := (sSeq (sSet .va 3 (dBin ixD (dVar 0) (dVar 2)))
  (sSeq (sIf (bT (dBin eqD (dBin ixD (dVar 3) (dC (.int 0))) (dC (.int 0)))) (sRet (dCall list1 (dCons (dVar 0) dNil))) sSkip)
  (sRet (dLc (iZipD (dCons (dVar 0) (dCons (dVar 1) dNil))) (gT 2 (gsCons (gN 4) (gsCons (gN 5) gsNil))) yesD (dIf (bT (dBin eqD (dBin ixD (dVar 5) (dC (.int 0))) (dC (.int 0)))) (dVar 4) (dFnN 2 sp_law_less_by (dCons (dVar 4) (dCons (dFnN 2 sp_law_mul (dCons (dVar 3) (dCons (dVar 5) dNil))) dNil)))) [4, 5]))))
def t_law_steps (sp_law_over_any sp_law_struck : SpD) : TSD := (sSeq (sPar .ow .va 1 2 (dLc (iSeq (dVar 0)) (gN 3) yesD (dCall list1 (dCons (dVar 3) dNil)) [3]) (dLst dNil))
  (sSeq (sSet .va 4 (dIf (bT (dBin neD (dOwn 1) (dLst dNil))) (dCall len1 (dCons (dBin ixD (dOwn 1) (dC (.int 0))) dNil)) (dC (.int 0))))
  (sSeq (sFor (iRange1 (dCons (dVar 4) dNil)) (gN 5) (sSeq (sSet .va 6 (dLc (iEnumD (dCons (dOwn 1) dNil)) (gT 2 (gsCons (gN 7) (gsCons (gN 3) gsNil))) (bT (dBin neD (dBin ixD (dBin ixD (dVar 3) (dVar 5)) (dC (.int 0))) (dC (.int 0)))) (dVar 7) [7, 3]))
  (sIf (bT (dBin neD (dVar 6) (dLst dNil))) (sSeq (sPop 8 1 (dBin ixD (dVar 6) (dC (.int 0))))
  (sSeq (sSet .va 9 (dLc (iSeq (dVar 8)) (gN 10) yesD (dFnN 2 sp_law_over_any (dCons (dVar 10) (dCons (dBin ixD (dVar 8) (dVar 5)) dNil))) [10]))
  (sSeq (sSet .ow 1 (dLc (iLst (dOwn 1)) (gN 3) yesD (dFnN 3 sp_law_struck (dCons (dVar 3) (dCons (dVar 9) (dCons (dVar 5) dNil)))) [3]))
  (sSet .va 2 (dBin addD (dLc (iSeq (dVar 2)) (gN 3) yesD (dFnN 3 sp_law_struck (dCons (dVar 3) (dCons (dVar 9) (dCons (dVar 5) dNil)))) [3]) (dLst (dCons (dVar 9) dNil))))))) sSkip)))
  (sRet (dCall tuple1 (dCons (dLc (iSeq (dVar 2)) (gN 3) yesD (dCall tuple1 (dCons (dVar 3) dNil)) [3]) dNil))))))
def t_law_rank (sp_law_steps : SpD) : TSD := (sRet (dCall len1 (dCons (dFnN 1 sp_law_steps (dCons (dVar 0) dNil)) dNil)))
def t_law_goes (sp_law_rank : SpD) : TSD := (sSeq (sSet .va 2 (dLc (iZipD (dCons (dVar 0) (dCons (dVar 1) dNil))) (gT 2 (gsCons (gN 3) (gsCons (gN 4) gsNil))) yesD (dBin addD (dVar 3) (dVar 4)) [3, 4]))
  (sRet (dIf (bT (dBin neD (dVar 0) (dLst dNil))) (dBin eqD (dFnN 1 sp_law_rank (dCons (dVar 2) dNil)) (dFnN 1 sp_law_rank (dCons (dVar 0) dNil))) (dC (.bl true)))))
def dotA : Rat → Row → Row → Rat
  | acc, x :: r, y :: s => dotA (acc + x * y) r s
  | acc, _, _ => acc
def DOk : Rat → Row → Row → Prop
  | acc, x :: r, y :: s => Sm acc ∧ Sm x ∧ Sm y ∧ Sm (x * y) ∧ DOk (acc + x * y) r s
  | _, _, _ => True
def sp_law_dot : SpD := fun ds c Q => ∃ r s : Row, ds = [rowT r, rowT s] ∧ DOk 0 r s ∧ Q (frD (dotA 0 r s)) c
theorem num_eq0 (q : Rat) : (q.num = 0) ↔ q = 0 := Rat.num_eq_zero
theorem dot_loop (N : Rho → Nat → Prop) (R : D → Nat → Prop) (c : Nat) (s0 s1 : Sl) : ∀ (r s : Row) (acc : Rat) (s3 s4 : Sl), DOk acc r s → (∀ s3 s4, N [s0, s1, .va (frD (dotA acc r s)), s3, s4] c) →
    forT (gT 2 (gsCons (gN 3) (gsCons (gN 4) gsNil))) (sIf (dAnd (bT (dBin neD (dBin ixD (dVar 3) (dC (.int 0))) (dC (.int 0)))) (bT (dBin neD (dBin ixD (dVar 4) (dC (.int 0))) (dC (.int 0))))) (sSet .va 2 (dFnN 2 sp_law_sum (dCons (dVar 2) (dCons (dFnN 2 sp_law_mul (dCons (dVar 3) (dCons (dVar 4) dNil))) dNil)))) sSkip)
      (zipD (r.map frD) (s.map frD)) [s0, s1, .va (frD acc), s3, s4] c N R
  | [], s, acc, s3, s4, _, h => by simpa [zipD, forT, dotA] using h s3 s4
  | x :: r, [], acc, s3, s4, _, h => by simpa [zipD, forT, dotA] using h s3 s4
  | x :: r, y :: s, acc, s3, s4, ok, h => by
    obtain ⟨h1, h2, h3, h4, ok⟩ := ok
    have ih := dot_loop N R c s0 s1 r s (acc + x * y) (.va (frD x)) (.va (frD y)) ok h
    have a0 : ∀ a b : D, atI [a, b] 0 = some a := fun a b => by simp [atI, ixN]
    simp [zipD, forT]
    by_cases hx : x = 0
    · have e : acc + x * y = acc := by rw [hx]; grind
      rw [e] at ih
      subst hx
      simp [frD, a0]
      simpa [frD] using ih
    · have hx' : ¬ x.num = 0 := fun z => hx ((num_eq0 x).mp z)
      by_cases hy : y = 0
      · have e : acc + x * y = acc := by rw [hy]; grind
        rw [e] at ih
        subst hy
        simp [frD, a0, hx']
        simpa [frD] using ih
      · have hy' : ¬ y.num = 0 := fun z => hy ((num_eq0 y).mp z)
        simp [frD, a0, hx', hy']
        exact ⟨x, y, rfl, h2, h3, acc, x * y, rfl, h1, h4, by simpa [frD] using ih⟩
theorem hs_law_dot (ds : List D) (c : Nat) (Q : D → Nat → Prop) (h : sp_law_dot ds c Q) : t_law_dot sp_law_sum sp_law_mul (startR ["_law_one_so", "_law_two_so", "_law_found", "_law_near_so", "_law_far_so"] ds) c (fun _ c' => Q .non c') Q := by
  obtain ⟨r, s, rfl, ok, h⟩ := h
  have := dot_loop (fun ρ c => sRet (dVar 2) ρ c (fun _ c' => Q .non c') Q) Q c (.va (rowT r)) (.va (rowT s)) r s 0 .no .no ok (fun s3 s4 => by simpa using h)
  simp [t_law_dot, rowT]
  simpa [rowT, frD] using this
def sp_law_both_rows : SpD := fun ds c Q => ∃ r s : Row, ds = [rowT r, rowT s] ∧ r.length ≤ 1000 ∧ Sms r ∧ Sms s ∧ Q (rowT (addR r s)) c
theorem hs_law_both_rows (ds : List D) (c : Nat) (Q : D → Nat → Prop) (h : sp_law_both_rows ds c Q) : t_law_both_rows sp_law_sum (startR ["_law_one_so", "_law_two_so", "_law_near_so", "_law_far_so"] ds) c (fun _ c' => Q .non c') Q := by
  obtain ⟨r, s, rfl, hl, hr, hs, h⟩ := h
  simp [t_law_both_rows, rowT, zipD_map]
  refine ⟨by omega, lc_map _ (fun p => frD (p.1 + p.2)) _ _ _ (fun p hp Q' q => ?_) ?_⟩
  · obtain ⟨h1, h2⟩ := mem_zip hp
    simp
    exact ⟨p.1, p.2, rfl, hr _ h1, hs _ h2, q⟩
  · simp
    have e : (r.zip s).map (fun p => frD (p.1 + p.2)) = (addR r s).map frD := by
      unfold addR
      rw [List.map_zipWith, List.zip, List.map_zipWith]
    rw [e]
    exact h
def nextF (A : List Row) (x : Row) : Row := A.map fun own => dotA 0 own x
def sp_law_next : SpD := fun ds c Q => ∃ (A : List Row) (x : Row), ds = [rowsT A, rowT x] ∧ A.length ≤ 1000 ∧ (∀ own ∈ A, DOk 0 own x) ∧ Q (rowT (nextF A x)) c
theorem hs_law_next (ds : List D) (c : Nat) (Q : D → Nat → Prop) (h : sp_law_next ds c Q) : t_law_next sp_law_dot (startR ["_law_table_so", "_law_row_so", "_law_own"] ds) c (fun _ c' => Q .non c') Q := by
  obtain ⟨A, x, rfl, hl, ok, h⟩ := h
  simp [t_law_next, rowsT]
  refine ⟨by omega, lc_map _ (fun own => frD (dotA 0 own x)) _ _ _ (fun own ho Q' q => ?_) ?_⟩
  · simp
    exact ⟨own, x, rfl, ok own ho, q⟩
  · simpa [rowT, nextF, Function.comp_def] using h
def machD (A B : List Row) : D := .tup [rowsT A, rowsT B]
def onF (A B : List Row) (x g : Row) : Row := addR (nextF A x) (nextF B g)
def sp_law_on : SpD := fun ds c Q => ∃ (A B : List Row) (x g : Row), ds = [machD A B, rowT x, rowT g] ∧ A.length ≤ 1000 ∧ B.length ≤ 1000 ∧ (∀ own ∈ A, DOk 0 own x) ∧ (∀ own ∈ B, DOk 0 own g) ∧ Sms (nextF A x) ∧ Sms (nextF B g) ∧ Q (rowT (onF A B x g)) c
theorem hs_law_on (ds : List D) (c : Nat) (Q : D → Nat → Prop) (h : sp_law_on ds c Q) : t_law_on sp_law_both_rows sp_law_next (startR ["_law_machine_so", "_law_cells_so", "_law_inputs_so"] ds) c (fun _ c' => Q .non c') Q := by
  obtain ⟨A, B, x, g, rfl, h1, h2, h3, h4, h5, h6, h⟩ := h
  have a0 : ∀ a b : D, atI [a, b] 0 = some a := fun a b => by simp [atI, ixN]
  simp [t_law_on, machD, a0, at1]
  refine ⟨A, x, rfl, h1, h3, B, g, rfl, h2, h4, _, _, rfl, by simpa [nextF] using h1, h5, h6, h⟩
def sp_law_idle : SpD := fun ds c Q => ∃ n : Nat, ds = [.int n] ∧ n ≤ 1000 ∧ Q (rowT (List.replicate n 0)) c
theorem hs_law_idle (ds : List D) (c : Nat) (Q : D → Nat → Prop) (h : sp_law_idle ds c Q) : t_law_idle (startR ["_law_size_so"] ds) c (fun _ c' => Q .non c') Q := by
  obtain ⟨n, rfl, hl, h⟩ := h
  simp [t_law_idle]
  refine ⟨by omega, ?_⟩
  rw [show D.tup [D.int 0, D.int 1] = frD 0 from rfl]
  first
    | (rw [flat_rep]; simpa [rowT] using h)
    | simpa [rowT] using h
def sp_law_struck : SpD := fun ds c Q => ∃ (r head : Row) (k : Nat), ds = [rowL r, rowL head, .int k] ∧ r.length ≤ 1000 ∧ KOk r head k ∧ Q (rowL (strk r head k)) c
theorem hs_law_struck (ds : List D) (c : Nat) (Q : D → Nat → Prop) (h : sp_law_struck ds c Q) : t_law_struck sp_law_less_by sp_law_mul (startR ["_law_row_so", "_law_head_so", "_law_k", "_law_part_so", "_law_mine", "_law_its"] ds) c (fun _ c' => Q .non c') Q := by
  obtain ⟨r, head, k, rfl, hl, ⟨h1, h2, h3, h4, h5⟩, h⟩ := h
  have a0 : ∀ a b : D, atI [a, b] 0 = some a := fun a b => by simp [atI, ixN]
  have e := at_map r k h2
  simp [t_law_struck, rowL]
  refine ⟨_, e, ?_⟩
  unfold strk at h
  by_cases hz : r.getD k 0 = 0
  · rw [if_pos hz] at h
    rw [hz]
    simp [frD, a0]
    simpa [rowL, frD] using h
  · have hz' : ¬ (r.getD k 0).num = 0 := fun z => hz ((num_eq0 _).mp z)
    rw [if_neg hz] at h
    have hsm : Sm (r.getD k 0) := h3 _ (getD_mem h2)
    generalize hp : r.getD k 0 = part at *
    simp [frD, a0, hz']
    rw [zipD_map]
    refine ⟨by rw [List.length_map, List.length_zip]; omega, lc_map _ (fun p => frD (p.1 + p.2 * -part)) _ _ _ (fun p hp Q' q => ?_) ?_⟩
    · obtain ⟨m1, m2⟩ := mem_zip hp
      simp
      by_cases h0 : p.2 = 0
      · have e : p.1 + p.2 * -part = p.1 := by rw [h0]; grind
        rw [e] at q
        simp [h0, frD, a0]
        simpa [frD] using q
      · have h0' : ¬ p.2.num = 0 := fun z => h0 ((num_eq0 _).mp z)
        simp [frD, a0, h0']
        refine ⟨part, p.2, rfl, hsm, h4 _ m2, p.1, part * p.2, rfl, h3 _ m1, ?_, ?_⟩
        · have := h5 (p.2 * part) (List.mem_map.mpr ⟨p.2, m2, rfl⟩)
          rwa [Rat.mul_comm] at this
        · have e : p.1 - part * p.2 = p.1 + p.2 * -part := by grind
          show Q' (frD (p.1 - part * p.2)) c
          rw [e]; exact q
    · have e2 : (r.zip head).map (fun p => frD (p.1 + p.2 * -part)) = (addR r (scR head (-part))).map frD := by
        unfold addR scR
        rw [List.map_zipWith, List.zip, List.map_zipWith, List.zipWith_map_right]
      rw [List.nil_append, e2]
      exact h
end Pd
end
section
set_option Elab.async false
set_option linter.all false
set_option maxRecDepth 100000
/-! PT2: steps, rank, goes. -/
namespace Pd
open Ma L2
theorem fines_iff : ∀ {n : Nat} {l : List D}, D.fines n l = true ↔ ∀ d ∈ l, d.fine n = true
  | n, [] => by simp [D.fines]
  | n, d :: l => by simp [D.fines, fines_iff (n := n) (l := l)]
theorem fine_lst {n : Nat} {l : List D} (h : ∀ d ∈ l, d.fine n = true) : (D.lst l).fine (n + 1) = true := by
  rw [D.fine]; exact fines_iff.mpr h
theorem fine_tup {n : Nat} {l : List D} (h : ∀ d ∈ l, d.fine n = true) : (D.tup l).fine (n + 1) = true := by
  rw [D.fine]; exact fines_iff.mpr h
theorem fine_rowL (n : Nat) (r : Row) : (rowL r).fine (n + 2) = true := fine_lst fun d hd => by
  obtain ⟨q, _, rfl⟩ := List.mem_map.mp hd
  exact fine_fr n q
theorem fine_rowT (n : Nat) (r : Row) : (rowT r).fine (n + 2) = true := fine_tup fun d hd => by
  obtain ⟨q, _, rfl⟩ := List.mem_map.mp hd
  exact fine_fr n q
theorem neD_nil {l : List D} (h : ∀ d ∈ l, d.fine 59 = true) (Q : D → Prop) : neD (.lst l) (.lst []) Q = Q (.bl (!l.isEmpty)) := by
  unfold neD
  rw [fine_lst h, fine_lst (n := 59) (l := []) (fun d hd => nomatch hd)]
  have e : PySem.PyData.eqv (D.lst l).py (D.lst []).py = l.isEmpty := by
    cases l <;> simp [D.py, D.pys, PySem.PyData.eqv, PySem.PyData.eqvAll]
  rw [e]
  simp
theorem eqD_nil {l : List D} (h : ∀ d ∈ l, d.fine 59 = true) (Q : D → Prop) : eqD (.lst l) (.lst []) Q = Q (.bl l.isEmpty) := by
  unfold eqD
  rw [fine_lst h, fine_lst (n := 59) (l := []) (fun d hd => nomatch hd)]
  have e : PySem.PyData.eqv (D.lst l).py (D.lst []).py = l.isEmpty := by
    cases l <;> simp [D.py, D.pys, PySem.PyData.eqv, PySem.PyData.eqvAll]
  rw [e]
  simp
theorem fine_int (n : Nat) (i : Int) : (D.int i).fine n = true := by cases n <;> rfl
theorem enum_map (left : List Row) : ∀ (n : Nat), enumD n (left.map rowL) = (List.range left.length).map fun j => D.tup [.int ((n + j : Nat) : Int), rowL (left.getD j [])] := by
  induction left with
  | nil => intro n; rfl
  | cons r left ih =>
    intro n
    simp only [List.map_cons, enumD, List.length_cons, List.range_succ_eq_map, List.map_map]
    rw [ih (n + 1)]
    congr 1
    exact List.map_congr_left fun j _ => by simp [Nat.add_assoc, Nat.add_comm 1]
def ColOk (rows : List Row) (n : Nat) : Prop := ∀ k, k < n → SOk (lawSteps rows k) k
def sp_law_steps : SpD := fun ds c Q => ∃ (rows : List Row) (n : Nat), ds = [rowsL rows] ∧ 0 < rows.length ∧ rows.length ≤ 1000 ∧ n ≤ 1000 ∧ (∀ r ∈ rows, r.length = n) ∧ ColOk rows n ∧ Q (rowsT (lawSteps rows n).2) c
theorem heads_lc {c : Nat} (left : List Row) (k n : Nat) (hk : k < n) (hl : ∀ r ∈ left, r.length = n) (Q : List D → Nat → Prop) (s0 s1 s2 s4 s6 s8 s9 s10 : Sl) (h : Q ((headsF left k).map fun j => D.int ((j : Nat) : Int)) c) :
    lcT (gT 2 (gsCons (gN 7) (gsCons (gN 3) gsNil))) (bT (dBin neD (dBin ixD (dBin ixD (dVar 3) (dVar 5)) (dC (.int 0))) (dC (.int 0)))) (dVar 7) (enumD 0 (left.map rowL)) [s0, s1, s2, .no, s4, .va (.int (k : Nat)), s6, .no, s8, s9, s10] c [] Q := by
  have a0 : ∀ a b : D, atI [a, b] 0 = some a := fun a b => by simp [atI, ixN]
  rw [enum_map]
  refine lc_filt _ (fun j : Nat => D.int ((j : Nat) : Int)) (fun j => decide ((left.getD j []).getD k 0 ≠ 0)) _ _ _ (fun _ _ _ _ _ => trivial) (fun j hj Q' Nx q1 q2 => ?_) (by simpa [headsF] using h)
  have hj' := List.mem_range.mp hj
  have hr : (left.getD j []).length = n := by
    rw [List.getD, List.getElem?_eq_getElem hj']; exact hl _ (List.getElem_mem hj')
  have e := at_map (left.getD j []) k (by omega)
  generalize left.getD j [] = r at *
  generalize r.getD k 0 = v at *
  simp [rowL]
  refine ⟨_, e, ?_⟩
  by_cases hz : v = 0
  · have := q2 (by simp [hz])
    rw [hz]
    simpa [frD, a0] using this
  · have hz' : ¬ v.num = 0 := fun z => hz ((num_eq0 _).mp z)
    have := q1 (by simp [hz])
    simpa [frD, a0, hz'] using this
theorem erase_map' {α β : Type} (f : α → β) : ∀ (l : List α) (j : Nat), (l.map f).eraseIdx j = (l.eraseIdx j).map f
  | [], _ => by simp
  | _ :: _, 0 => by simp
  | _ :: l, j + 1 => by simp [erase_map' f l j]
theorem steps_loop {rows : List Row} {n : Nat} (hn : n ≤ 1000) (hr : rows.length ≤ 1000) (ok : ColOk rows n) (hl : ∀ r ∈ rows, r.length = n) (N : Rho → Nat → Prop) (R : D → Nat → Prop) (c : Nat) (s0 s4 : Sl)
    (h : ∀ s1 s3 s5 s6 s7 s8 s9 s10, N [s0, s1, .va (.lst ((lawSteps rows n).2.map rowL)), s3, s4, s5, s6, s7, s8, s9, s10] c) : ∀ (d k : Nat) (s5 s6 s8 s9 : Sl), k + d = n → 
    forT (gN 5) (sSeq (sSet .va 6 (dLc (iEnumD (dCons (dOwn 1) dNil)) (gT 2 (gsCons (gN 7) (gsCons (gN 3) gsNil))) (bT (dBin neD (dBin ixD (dBin ixD (dVar 3) (dVar 5)) (dC (.int 0))) (dC (.int 0)))) (dVar 7) [7, 3]))
  (sIf (bT (dBin neD (dVar 6) (dLst dNil))) (sSeq (sPop 8 1 (dBin ixD (dVar 6) (dC (.int 0))))
  (sSeq (sSet .va 9 (dLc (iSeq (dVar 8)) (gN 10) yesD (dFnN 2 sp_law_over_any (dCons (dVar 10) (dCons (dBin ixD (dVar 8) (dVar 5)) dNil))) [10]))
  (sSeq (sSet .ow 1 (dLc (iLst (dOwn 1)) (gN 3) yesD (dFnN 3 sp_law_struck (dCons (dVar 3) (dCons (dVar 9) (dCons (dVar 5) dNil)))) [3]))
  (sSet .va 2 (dBin addD (dLc (iSeq (dVar 2)) (gN 3) yesD (dFnN 3 sp_law_struck (dCons (dVar 3) (dCons (dVar 9) (dCons (dVar 5) dNil)))) [3]) (dLst (dCons (dVar 9) dNil))))))) sSkip))
      ((List.range' k d).map fun p => D.int ((p : Nat) : Int)) [s0, .ow ((lawSteps rows k).1.map rowL), .va (.lst ((lawSteps rows k).2.map rowL)), .no, s4, s5, s6, .no, s8, s9, .no] c N R
  | 0, k, s5, s6, s8, s9, e => by
    have : k = n := by omega
    subst this
    exact h _ _ _ _ _ _ _ _
  | d + 1, k, s5, s6, s8, s9, e => by
    have ih := fun s6 s8 s9 => steps_loop hn hr ok hl N R c s0 s4 h d (k + 1) (.va (.int (k : Nat))) s6 s8 s9 (by omega)
    have hok := ok k (by omega)
    rw [lawSteps_succ] at ih
    have lens : ∀ j, j ≤ k → (∀ r ∈ (lawSteps rows j).1, r.length = n) ∧ (∀ r ∈ (lawSteps rows j).2, r.length = n) ∧ (lawSteps rows j).1.length + (lawSteps rows j).2.length = rows.length := by
      intro j
      induction j with
      | zero => intro _; exact ⟨hl, (fun _ z => nomatch z), by simp [lawSteps]⟩
      | succ j ihj =>
        intro hj
        obtain ⟨a, b, cc⟩ := ihj (by omega)
        rw [lawSteps_succ]
        obtain ⟨a', b'⟩ := step_lens (k := j) a b
        refine ⟨a', b', ?_⟩
        unfold lawStep
        split
        · exact cc
        · rename_i jj js hh
          have := (heads_cons hh).1
          simp only [List.length_map, List.length_append, List.length_singleton, List.length_eraseIdx_of_lt this]
          omega
    obtain ⟨l1, l2, l3⟩ := lens k (Nat.le_refl _)
    generalize hst : lawSteps rows k = st at *
    obtain ⟨left, found⟩ := st
    simp only [] at l1 l2 l3
    simp only [List.range'_succ, List.map_cons, forT, gN, sSeq, sSet, dLc, iEnumD, dCons, dNil, dOwn, Kd.sl, List.set, List.getElem?_cons_zero, List.getElem?_cons_succ, Option.some.injEq, Sl.ow.injEq, exists_eq_left', forgetR]
    refine ⟨by rw [enumD_len, List.length_map]; omega, heads_lc left k n (by omega) l1 _ _ _ _ _ _ _ _ _ ?_⟩
    simp only [sIf, bT, dBin, dVar, dLst, dNil, List.getElem?_cons_zero, List.getElem?_cons_succ, Option.some.injEq, Sl.va.injEq, exists_eq_left']
    rw [neD_nil (fun x hx => by
      obtain ⟨j, _, rfl⟩ := List.mem_map.mp hx
      exact fine_int _ _)]
    refine ⟨by decide, _, rfl, ?_⟩
    cases hh : headsF left k with
    | nil =>
      have e1 : lawStep (left, found) k = (left, found) := by unfold lawStep; simp only [hh]
      rw [e1] at ih
      simp
      simpa using ih (.va (.lst [])) s8 s9
    | cons j js =>
      obtain ⟨hj, hne⟩ := heads_cons hh
      obtain ⟨o1, o2, o3⟩ := hok j js hh
      have e1 : lawStep (left, found) k = ((left.eraseIdx j).map (fun r => strk r (headF (left.getD j []) k) k), found.map (fun r => strk r (headF (left.getD j []) k) k) ++ [headF (left.getD j []) k]) := by unfold lawStep; simp only [hh]
      rw [e1] at ih
      have hown : left.getD j [] ∈ left := by
        rw [List.getD, List.getElem?_eq_getElem hj]; exact List.getElem_mem hj
      have hol := l1 _ hown
      have hget : (left.map rowL)[j]? = some (rowL (left.getD j [])) := by
        rw [List.getElem?_map, List.getElem?_eq_getElem hj]
        simp [List.getD, List.getElem?_eq_getElem hj]
      have le1 : (left.eraseIdx j).length + 1 = left.length := by rw [List.length_eraseIdx_of_lt hj]; omega
      simp only [] at o1 o2 o3
      generalize hO : left.getD j [] = own at *
      have e := at_map own k (by omega)
      have hsk : Sm (own.getD k 0) := o1 _ (getD_mem (by omega))
      simp only [List.map_cons, List.isEmpty_cons, Bool.not_false, if_true, sSeq, sPop, dBin, dVar, dC, List.getElem?_cons_zero, List.getElem?_cons_succ, Option.some.injEq, Sl.va.injEq, Sl.ow.injEq, exists_eq_left', ixD]
      refine ⟨.int (j : Nat), by simp [atI, ixN], j, rowL own, rfl, by omega, hget, ?_⟩
      simp only [sSet, dLc, iSeq, dVar, Kd.sl, rowL, List.set, List.getElem?_cons_zero, List.getElem?_cons_succ, Option.some.injEq, Sl.va.injEq, exists_eq_left', forgetR]
      refine ⟨by rw [List.length_map]; omega, lc_map _ (fun x => frD (x * (1 / own.getD k 0))) _ _ _ (fun x hx Q' q => ?_) ?_⟩
      · simp
        refine ⟨_, e, x, own.getD k 0, rfl, o1 x hx, hsk, hne, ?_⟩
        have e9 : x / own.getD k 0 = x * (1 / own.getD k 0) := by grind
        rw [e9]; exact q
      · have eh : own.map (fun x => frD (x * (1 / own.getD k 0))) = (headF own k).map frD := by
          unfold headF scR
          rw [List.map_map]; rfl
        simp only [List.nil_append]
        rw [eh]
        generalize headF own k = head at *
        rw [erase_map']
        simp only [iLst, dOwn, List.getElem?_cons_zero, List.getElem?_cons_succ, Option.some.injEq, Sl.ow.injEq, exists_eq_left', D.lst.injEq]
        refine ⟨by rw [List.length_map]; omega, lc_map rowL (fun r => rowL (strk r head k)) _ _ _ (fun r hr' Q' q => ?_) ?_⟩
        · simp
          exact ⟨r, head, k, rfl, by rw [l1 r (List.mem_of_mem_eraseIdx hr')]; exact hn, o2 r hr', q⟩
        · simp only [List.nil_append, sSet, dBin, dLc, iSeq, forgetR, List.set, Kd.sl, dVar, List.getElem?_cons_zero, List.getElem?_cons_succ, Option.some.injEq, Sl.va.injEq, exists_eq_left']
          refine ⟨by rw [List.length_map]; omega, lc_map rowL (fun r => rowL (strk r head k)) _ _ _ (fun r hr' Q' q => ?_) ?_⟩
          · simp
            exact ⟨r, head, k, rfl, by rw [l2 r hr']; exact hn, o3 r hr', q⟩
          · simp
            refine ⟨by omega, ?_⟩
            have := ih (.va (.lst (.int (j : Nat) :: js.map fun j => .int (j : Nat)))) (.va (rowL own)) (.va (rowL head))
            simpa [rowL, Function.comp_def] using this
theorem hs_law_steps (ds : List D) (c : Nat) (Q : D → Nat → Prop) (h : sp_law_steps ds c Q) : t_law_steps sp_law_over_any sp_law_struck (startR ["_law_rows_so", "_law_left_so", "_law_found", "_law_row_so", "_law_size_so", "_law_k", "_law_heads_so", "_law_j", "_law_own", "_law_head_so", "_law_bit"] ds) c (fun _ c' => Q .non c') Q := by
  obtain ⟨rows, n, rfl, hp, hl, hn, hr, ok, h⟩ := h
  obtain ⟨r0, rows', rfl⟩ : ∃ r0 L', rows = r0 :: L' := by
    cases rows with
    | nil => simp at hp
    | cons r L => exact ⟨r, L, rfl⟩
  have e0 := hr r0 List.mem_cons_self
  generalize hR : r0 :: rows' = rows at *
  have hne : (rows.map rowL).isEmpty = false := by rw [← hR]; rfl
  have hat : atI (rows.map rowL) 0 = some (rowL r0) := by rw [← hR]; simp [atI, ixN]
  simp only [t_law_steps, startR, sSeq, sPar, dLc, iSeq, dVar, rowsL, Kd.sl, List.map, List.length, List.replicate, List.append, List.set, HAppend.hAppend, Append.append, List.getElem?_cons_zero, List.getElem?_cons_succ, Option.some.injEq, Sl.va.injEq, exists_eq_left', forgetR]
  refine ⟨by rw [List.length_map]; omega, lc_map rowT rowL _ _ _ (fun r hr' Q' q => by simpa [rowT, rowL] using q) ?_⟩
  simp only [List.nil_append, dLst, dNil, sSet, dIf, bT, dBin, dOwn, dCall, dCons, dC, Kd.sl, List.set, List.getElem?_cons_zero, List.getElem?_cons_succ, Option.some.injEq, Sl.ow.injEq, exists_eq_left']
  rw [neD_nil (fun x hx => by
      obtain ⟨j, _, rfl⟩ := List.mem_map.mp hx
      exact fine_rowL _ _), hne]
  refine ⟨by decide, by decide, true, rfl, ?_⟩
  simp only [if_true, ixD]
  refine ⟨_, hat, ?_⟩
  simp only [rowL, len1, List.length_map, e0, sFor, iRange1, dCons, dNil, dVar, List.getElem?_cons_zero, List.getElem?_cons_succ, Option.some.injEq, Sl.va.injEq, exists_eq_left']
  refine ⟨by omega, by omega, ?_⟩
  rw [ivs_nat, List.range_eq_range']
  refine steps_loop hn hl ok hr _ Q c _ _ (fun s1 s3 s5 s6 s7 s8 s9 s10 => ?_) n 0 .no .no .no .no (by omega)
  have flen : (lawSteps rows n).2.length ≤ 1000 := by
    have : ∀ j, (lawSteps rows j).1.length + (lawSteps rows j).2.length = rows.length := by
      intro j
      induction j with
      | zero => simp [lawSteps]
      | succ j ihj =>
        rw [lawSteps_succ]
        unfold lawStep
        split
        · exact ihj
        · rename_i jj js hh
          have := (heads_cons hh).1
          simp only [List.length_map, List.length_append, List.length_singleton, List.length_eraseIdx_of_lt this]
          omega
    have := this n
    omega
  simp
  refine ⟨by omega, lc_map rowL rowT _ _ _ (fun r hr' Q' q => by simpa [rowT, rowL] using q) ?_⟩
  simpa [rowsT] using h
def sp_law_rank : SpD := fun ds c Q => ∃ (rows : List Row) (n : Nat), ds = [rowsL rows] ∧ 0 < rows.length ∧ rows.length ≤ 1000 ∧ n ≤ 1000 ∧ (∀ r ∈ rows, r.length = n) ∧ ColOk rows n ∧ Q (.int ((lawSteps rows n).2.length : Nat)) c
theorem hs_law_rank (ds : List D) (c : Nat) (Q : D → Nat → Prop) (h : sp_law_rank ds c Q) : t_law_rank sp_law_steps (startR ["_law_rows_so"] ds) c (fun _ c' => Q .non c') Q := by
  obtain ⟨rows, n, rfl, h1, h2, h3, h4, h5, h⟩ := h
  simp [t_law_rank]
  exact ⟨rows, n, rfl, h1, h2, h3, h4, h5, by simpa [rowsT] using h⟩
noncomputable def sp_law_goes : SpD := fun ds c Q => ∃ (cols nexts : List Row) (w n : Nat), ds = [rowsL cols, rowsL nexts] ∧ 0 < cols.length ∧ cols.length ≤ 1000 ∧ w + n ≤ 1000 ∧ cols.length = nexts.length ∧ (∀ r ∈ cols, r.length = w) ∧ (∀ r ∈ nexts, r.length = n) ∧ ColOk cols w ∧ ColOk (wideF cols nexts) (w + n) ∧
  (Grf w n cols nexts → Q (.bl true) c) ∧ (¬ Grf w n cols nexts → Q (.bl false) c)
theorem hs_law_goes (ds : List D) (c : Nat) (Q : D → Nat → Prop) (h : sp_law_goes ds c Q) : t_law_goes sp_law_rank (startR ["_law_columns_so", "_law_nexts_so", "_law_wide_so", "_law_column_so", "_law_next_so"] ds) c (fun _ c' => Q .non c') Q := by
  obtain ⟨cols, nexts, w, n, rfl, h1, h2, h3, h4, h5, h6, h7, h8, hy, hn⟩ := h
  have hi := rank_iff h4 h5 h6
  have hne : (cols.map rowT).isEmpty = false := by
    cases cols with
    | nil => simp at h1
    | cons a b => rfl
  simp only [t_law_goes, startR, sSeq, sSet, dLc, iZipD, dCons, dNil, dVar, rowsL, Kd.sl, List.map, List.length, List.replicate, List.append, List.set, HAppend.hAppend, Append.append, List.getElem?_cons_zero, List.getElem?_cons_succ, Option.some.injEq, Sl.va.injEq, exists_eq_left', forgetR]
  rw [zipD_map]
  refine ⟨by rw [List.length_map, List.length_zip]; omega, lc_map _ (fun p : Row × Row => rowT (p.1 ++ p.2)) _ _ _ (fun p hp Q' q => ?_) ?_⟩
  · have hm := List.of_mem_zip hp
    have a1 := h5 _ hm.1
    have a2 := h6 _ hm.2
    simp [rowT]
    refine ⟨by omega, ?_⟩
    simpa [rowT] using q
  · have e : (cols.zip nexts).map (fun p => rowT (p.1 ++ p.2)) = (wideF cols nexts).map rowT := by
      unfold wideF
      rw [List.map_zipWith, List.zip, List.map_zipWith]
    rw [List.nil_append, e]
    simp only [sRet, dIf, bT, dBin, dVar, dLst, dNil, List.getElem?_cons_zero, List.getElem?_cons_succ, Option.some.injEq, Sl.va.injEq, exists_eq_left']
    rw [neD_nil (fun x hx => by
      obtain ⟨j, _, rfl⟩ := List.mem_map.mp hx
      exact fine_rowT _ _), hne]
    refine ⟨by decide, true, rfl, ?_⟩
    simp only [if_true, dFnN, dCons, dNil, dVar, List.getElem?_cons_zero, List.getElem?_cons_succ, Option.some.injEq, Sl.va.injEq, exists_eq_left']
    refine ⟨by trivial, wideF cols nexts, w + n, rfl, by rw [wide_len h4]; exact h1, by rw [wide_len h4]; exact h2, h3, wide_rows h5 h6, h8, by trivial, cols, w, rfl, h1, h2, by omega, h5, h7, ?_⟩
    simp only [eqD_int]
    by_cases g : Grf w n cols nexts
    · rw [decide_eq_true (by rw [hi.mpr g])]
      exact hy g
    · rw [decide_eq_false (fun z => g (hi.mp (by omega)))]
      exact hn g
end Pd
end
section
set_option Elab.async false
set_option linter.all false
set_option maxRecDepth 100000
/-! PT3: ticks_of, fit_parts, subsets, lots_of_changes. -/
namespace Pd
open Ma L2 Mc
def t_law_ticks_of : TSD := (sSeq (sAsg (dVar 0) (gT 2 (gsCons (gN 1) (gsCons (gN 2) gsNil))))
  (sRet (dTup (dCons (dLc (iZipD (dCons (dVar 1) (dCons (dVar 2) dNil))) (gT 2 (gsCons (gN 3) (gsCons (gN 4) gsNil))) yesD (dBin addD (dVar 3) (dVar 4)) [3, 4]) (dCons (dCall list1 (dCons (dSl (dVar 1) (oSo (dC (.int 1))) oNo) dNil)) dNil)))))
def t_law_fit_parts (sp_law_ticks_of sp_law_goes : SpD) : TSD := (sSeq (sAsg (dFnN 1 sp_law_ticks_of (dCons (dVar 0) dNil)) (gT 2 (gsCons (gN 1) (gsCons (gN 2) gsNil))))
  (sSeq (sPar .va .od 3 4 (dCall len1 (dCons (dVar 1) dNil)) (fun _ c Q => Q (.dic []) c))
  (sSeq (sFor (iRange1 (dCons (dVar 3) dNil)) (gN 5) (sFor (iRange2 (dCons (dBin addD (dVar 5) (dC (.int 1))) (dCons (dBin addD (dVar 3) (dC (.int 1))) dNil))) (gN 6) (sDput 4 (dVar 5) (dVar 6) (dFnN 2 sp_law_goes (dCons (dSl (dVar 1) (oSo (dVar 5)) (oSo (dVar 6))) (dCons (dSl (dVar 2) (oSo (dVar 5)) (oSo (dVar 6))) dNil))))))
  (sFrz 4 (sRet (dVar 4))))))
def t_law_subsets : TSD := (sSeq (sSet .va 1 (dLst (dCons (dTup dNil) dNil)))
  (sSeq (sFor (iSeq (dVar 0)) (gN 2) (sSet .va 1 (dBin addD (dVar 1) (dLc (iSeq (dVar 1)) (gN 3) yesD (dBin addD (dVar 3) (dTup (dCons (dVar 2) dNil))) [3]))))
  (sRet (dVar 1))))
def t_law_lots_of_changes (sp_law_subsets : SpD) : TSD := (sSeq (sSet .ow 2 (dLst dNil))
  (sSeq (sFor (iSeq (dFnN 1 sp_law_subsets (dCons (dBin lrgD (dC (.int 1)) (dVar 1)) dNil))) (gN 3) (sSeq (sSet .va 4 (dBin addD (dBin addD (dTup (dCons (dC (.int 0)) dNil)) (dVar 3)) (dTup (dCons (dVar 1) dNil))))
  (sIf (bT (dBin eqD (dLc (iZipD (dCons (dVar 4) (dCons (dSl (dVar 4) (oSo (dC (.int 1))) oNo) dNil))) (gT 2 (gsCons (gN 5) (gsCons (gN 6) gsNil))) (dNot (bT (dBin dgetD (dVar 0) (dTup (dCons (dVar 5) (dCons (dVar 6) dNil)))))) (dC (.int 1)) [5, 6]) (dLst dNil))) (sApp 2 (dVar 3)) sSkip)))
  (sFrz 2 (sRet (dVar 2)))))
def sp_law_ticks_of : SpD := fun ds c Q => ∃ L G, ds = [pieceT L G] ∧ Few L ∧ Few G ∧ Q (.tup [rowsL (zipA L G), rowsL (L.drop 1)]) c
theorem hs_law_ticks_of (ds : List D) (c : Nat) (Q : D → Nat → Prop) (h : sp_law_ticks_of ds c Q) : t_law_ticks_of (startR ["_law_piece_so", "_law_line_so", "_law_given_so", "_law_cells_so", "_law_inputs_so"] ds) c (fun _ c' => Q .non c') Q := by
  obtain ⟨L, G, rfl, h1, h2, h⟩ := h
  simp [t_law_ticks_of, pieceT, rowsT, zipD_map, cut1]
  have hz : (L.zip G).length ≤ 1000 := by rw [List.length_zip]; have := h1.1; omega
  have hz' := hz
  rw [List.length_zip] at hz'
  refine ⟨by omega, lc_map _ (fun p : Row × Row => rowT (p.1 ++ p.2)) _ _ _ (fun p hp Q' q => ?_) ?_⟩
  · have hm := List.of_mem_zip hp
    have a1 := h1.2 _ hm.1
    have a2 := h2.2 _ hm.2
    simp [rowT]
    refine ⟨by omega, ?_⟩
    simpa [rowT] using q
  · have e : (L.zip G).map (fun p => rowT (p.1 ++ p.2)) = (zipA L G).map rowT := by
      unfold zipA
      rw [List.map_zipWith, List.zip, List.map_zipWith]
    simp only [List.nil_append]
    rw [e]
    simpa [rowsL, List.map_tail] using h
/-- the law's own sizes -/
def PcLw (n m : Nat) (L G : List Row) : Prop := ∀ a b, a < b → b ≤ G.length → ColOk (colsP L G a b) (n + m) ∧ ColOk (wideF (colsP L G a b) (nextP L a b)) (n + m + n)
theorem zipW_take {α β γ : Type} (f : α → β → γ) : ∀ (k : Nat) (X : List α) (Y : List β), List.zipWith f (X.take (k + 1)) (Y.take k) = List.zipWith f (X.take k) (Y.take k)
  | 0, X, Y => by simp
  | k + 1, [], Y => by simp
  | k + 1, _ :: _, [] => by simp
  | k + 1, x :: X, y :: Y => by
    have := zipW_take f k X Y
    simp only [List.take_succ_cons, List.zipWith_cons_cons]
    rw [this]
open Classical in
theorem fitB_iff {n m : Nat} {L G : List Row} {a b : Nat} : fitB n m L G a b = true ↔ Gr (n + m) n (colsP L G a b) (nextP L a b) := by
  unfold fitB
  exact decide_eq_true_iff
theorem zip_seg (L G : List Row) (a b : Nat) (hG : b ≤ G.length) (hL : L.length = G.length + 1) : seg (zipA L G) a b = colsP L G a b := by
  unfold colsP zipA seg
  rw [List.drop_zipWith, List.take_zipWith]
  by_cases h : a ≤ b
  · rw [show b + 1 - a = (b - a) + 1 by omega, zipW_take]
  · rw [show b - a = 0 by omega]
    simp
theorem next_seg (L : List Row) (a b : Nat) : seg (L.drop 1) a b = nextP L a b := by
  unfold nextP seg
  rw [List.drop_take, List.drop_drop, List.drop_drop, show b + 1 - a - 1 = b - a by omega, Nat.add_comm]
def ent (F : Nat → Nat → Bool) (ps : List (Nat × Nat)) : List ((Int × Int) × Bool) := ps.map fun p => (((p.1 : Int), (p.2 : Int)), F p.1 p.2)
def prs (N : Nat) : Nat → List (Nat × Nat)
  | 0 => []
  | k + 1 => prs N k ++ (List.range' (k + 1) (N - k)).map fun b => (k, b)
theorem prs_mem {N x y : Nat} : ∀ {k : Nat}, (x, y) ∈ prs N k ↔ x < k ∧ x < y ∧ y ≤ N
  | 0 => by simp [prs]
  | k + 1 => by
    rw [prs, List.mem_append, prs_mem (k := k), List.mem_map]
    constructor
    · rintro (⟨h1, h2, h3⟩ | ⟨b, hb, e⟩)
      · exact ⟨by omega, h2, h3⟩
      · rw [List.mem_range'_1] at hb
        cases e
        omega
    · rintro ⟨h1, h2, h3⟩
      by_cases h : x < k
      · exact .inl ⟨h, h2, h3⟩
      · have : x = k := by omega
        subst this
        exact .inr ⟨y, by rw [List.mem_range'_1]; omega, rfl⟩
theorem ent_some {F : Nat → Nat → Bool} {ps : List (Nat × Nat)} {a b : Nat} (h : (a, b) ∈ ps) : dval (ent F ps) ((a : Int), (b : Int)) = some (F a b) := by
  induction ps with
  | nil => cases h
  | cons p ps ih =>
    obtain ⟨x, y⟩ := p
    simp only [dval, ent, List.map_cons, List.find?_cons]
    by_cases e : x = a ∧ y = b
    · obtain ⟨rfl, rfl⟩ := e
      simp
    · have e2 : decide (((x : Int), (y : Int)) = ((a : Int), (b : Int))) = false := by
        rw [decide_eq_false]
        intro z
        have := Prod.mk.inj z
        omega
      rw [e2]
      rcases List.mem_cons.mp h with z | h
      · cases z
        exact absurd ⟨rfl, rfl⟩ e
      · exact ih h
theorem ent_none {F : Nat → Nat → Bool} {ps : List (Nat × Nat)} {a b : Nat} (h : (a, b) ∉ ps) : dval (ent F ps) ((a : Int), (b : Int)) = none := by
  unfold dval ent
  rw [Option.map_eq_none_iff, List.find?_eq_none]
  intro x hx
  obtain ⟨⟨p, q⟩, hp, rfl⟩ := List.mem_map.mp hx
  simp
  intro e1 e2
  have h1 : p = a := by omega
  have h2 : q = b := by omega
  subst h1 h2
  exact h hp
theorem prs_len (N : Nat) : ∀ k, (prs N k).length ≤ k * N
  | 0 => by simp [prs]
  | k + 1 => by
    have := prs_len N k
    simp only [prs, List.length_append, List.length_map, List.length_range']
    rw [Nat.succ_mul]
    omega
noncomputable def sp_law_fit_parts : SpD := fun ds c Q => ∃ n m L G, ds = [pieceT L G] ∧ PcOk n m L G ∧ PcLw n m L G ∧ Q (.dic (ent (fitB n m L G) (prs G.length G.length))) c
section
variable {n m : Nat} {L G : List Row} (ok : PcOk n m L G) (lw : PcLw n m L G)
include ok lw
theorem goes_of (a b : Nat) (hab : a < b) (hb : b ≤ G.length) (c : Nat) (Q : D → Nat → Prop) (h : Q (.bl (fitB n m L G a b)) c) :
    sp_law_goes [rowsL (colsP L G a b), rowsL (nextP L a b)] c Q := by
  have ck := ok.ck a b hab hb
  obtain ⟨l1, l2⟩ := lw a b hab hb
  have few := ok.few
  have nm := ok.nm
  refine ⟨_, _, n + m, n, rfl, ck.pos, ck.len, by omega, ck.nl.symm, ck.cl, ck.nn, l1, l2, fun g => ?_, fun g => ?_⟩
  · have e : fitB n m L G a b = true := fitB_iff.mpr g
    rw [e] at h; exact h
  · have e : fitB n m L G a b = false := by
      cases z : fitB n m L G a b with
      | false => rfl
      | true => exact absurd (fitB_iff.mp z) g
    rw [e] at h; exact h
theorem fits_in (N : Rho → Nat → Prop) (R : D → Nat → Prop) (c : Nat) (s0 s3 : Sl) (a : Nat) (pre : List (Nat × Nat)) (ha : a < G.length) (hpre : pre.length ≤ a * G.length) (hpm : ∀ b, (a, b) ∉ pre) : ∀ (d b : Nat) (s6 : Sl), b + d = G.length + 1 → a < b →
    (∀ s6, N [s0, .va (rowsL (zipA L G)), .va (rowsL (L.drop 1)), s3, .od (ent (fitB n m L G) (pre ++ (List.range' (a + 1) (G.length - a)).map fun b => (a, b))), .va (.int (a : Nat)), s6] c) →
    forT (gN 6) (sDput 4 (dVar 5) (dVar 6) (dFnN 2 sp_law_goes (dCons (dSl (dVar 1) (oSo (dVar 5)) (oSo (dVar 6))) (dCons (dSl (dVar 2) (oSo (dVar 5)) (oSo (dVar 6))) dNil)))) ((List.range' b d).map fun x => D.int ((x : Nat) : Int))
      [s0, .va (rowsL (zipA L G)), .va (rowsL (L.drop 1)), s3, .od (ent (fitB n m L G) (pre ++ (List.range' (a + 1) (b - a - 1)).map fun b => (a, b))), .va (.int (a : Nat)), s6] c N R
  | 0, b, s6, e, hab, h => by
    have : b - a - 1 = G.length - a := by omega
    rw [this]
    exact h s6
  | d + 1, b, s6, e, hab, h => by
    have few := ok.few
    have hL := ok.len
    have ih := fits_in N R c s0 s3 a pre ha hpre hpm d (b + 1) (.va (.int (b : Nat))) (by omega) (by omega) h
    rw [show b + 1 - a - 1 = (b - a - 1) + 1 by omega, List.range'_1_concat, List.map_append, ← List.append_assoc] at ih
    have eb : a + 1 + (b - a - 1) = b := by omega
    rw [eb] at ih
    have hnm : (a, b) ∉ pre ++ (List.range' (a + 1) (b - a - 1)).map fun b => (a, b) := fun z => by
      rcases List.mem_append.mp z with z | z
      · exact hpm b z
      · obtain ⟨x, hx, e⟩ := List.mem_map.mp z
        rw [List.mem_range'_1] at hx
        cases e
        omega
    have hlen : (ent (fitB n m L G) (pre ++ (List.range' (a + 1) (b - a - 1)).map fun b => (a, b))).length < 1000000 := by
      unfold ent
      simp only [List.length_map, List.length_append, List.length_range']
      have : a * G.length ≤ 100 * 100 := Nat.mul_le_mul (by omega) few
      omega
    have hent : ent (fitB n m L G) ((pre ++ (List.range' (a + 1) (b - a - 1)).map fun b => (a, b)) ++ [(a, b)]) = ent (fitB n m L G) (pre ++ (List.range' (a + 1) (b - a - 1)).map fun b => (a, b)) ++ [(((a : Int), (b : Int)), fitB n m L G a b)] := by
      unfold ent
      rw [List.map_append]; rfl
    generalize pre ++ (List.range' (a + 1) (b - a - 1)).map (fun b => (a, b)) = ps at *
    have zl : (zipA L G).length = G.length := by unfold zipA; rw [List.length_zipWith]; omega
    have dl : (L.drop 1).length = G.length := by rw [List.length_drop]; omega
    simp only [List.range'_succ, List.map_cons, forT, gN, sDput, dFnN, dCons, dNil, dSl, oSo, dVar, rowsL, slD, List.set, List.getElem?_cons_zero, List.getElem?_cons_succ, Option.some.injEq, Sl.va.injEq, Sl.od.injEq, exists_eq_left', List.length, D.int.injEq]
    rw [cut_nat _ _ _ (by rw [List.length_map]; omega), cut_nat _ _ _ (by rw [List.length_map]; omega)]
    have e1 : seg ((zipA L G).map rowT) a b = (colsP L G a b).map rowT := by
      rw [← zip_seg L G a b (by omega) hL]
      unfold seg; rw [List.map_take, List.map_drop]
    have e2 : seg ((L.drop 1).map rowT) a b = (nextP L a b).map rowT := by
      rw [← next_seg L a b]
      unfold seg; simp only [List.map_take, List.map_drop]
    rw [e1, e2]
    refine ⟨by trivial, goes_of ok lw a b hab (by omega) c _ ⟨fitB n m L G a b, a, b, rfl, rfl, rfl, ent_none hnm, hlen, ?_⟩⟩
    rw [← hent]
    simpa [rowsL] using ih
theorem fits_out (N : Rho → Nat → Prop) (R : D → Nat → Prop) (c : Nat) (s0 : Sl) (h : ∀ s5 s6, N [s0, .va (rowsL (zipA L G)), .va (rowsL (L.drop 1)), .va (.int (G.length : Nat)), .od (ent (fitB n m L G) (prs G.length G.length)), s5, s6] c) : ∀ (d a : Nat) (s5 s6 : Sl), a + d = G.length →
    forT (gN 5) (sFor (iRange2 (dCons (dBin addD (dVar 5) (dC (.int 1))) (dCons (dBin addD (dVar 3) (dC (.int 1))) dNil))) (gN 6) (sDput 4 (dVar 5) (dVar 6) (dFnN 2 sp_law_goes (dCons (dSl (dVar 1) (oSo (dVar 5)) (oSo (dVar 6))) (dCons (dSl (dVar 2) (oSo (dVar 5)) (oSo (dVar 6))) dNil))))) ((List.range' a d).map fun x => D.int ((x : Nat) : Int))
      [s0, .va (rowsL (zipA L G)), .va (rowsL (L.drop 1)), .va (.int (G.length : Nat)), .od (ent (fitB n m L G) (prs G.length a)), s5, s6] c N R
  | 0, a, s5, s6, e => by
    have : a = G.length := by omega
    subst this
    exact h s5 s6
  | d + 1, a, s5, s6, e => by
    have few := ok.few
    have ih := fun s6 => fits_out N R c s0 h d (a + 1) (.va (.int (a : Nat))) s6 (by omega)
    simp only [List.range'_succ, List.map_cons, forT, gN, sFor, iRange2, dCons, dNil, dBin, dC, addD, dVar, List.set, List.getElem?_cons_zero, List.getElem?_cons_succ, Option.some.injEq, Sl.va.injEq, exists_eq_left']
    refine ⟨by omega, ?_⟩
    have e1 : ivs ((a : Int) + 1) ((G.length : Int) + 1) = (List.range' (a + 1) (G.length - a)).map fun x => D.int ((x : Nat) : Int) := by
      unfold ivs
      rw [show ((G.length : Int) + 1 - ((a : Int) + 1)).toNat = G.length - a by omega, List.range'_eq_map_range, List.map_map]
      exact List.map_congr_left fun i _ => by simp
    rw [e1]
    have := fits_in ok lw (fun ρ2 c2 => forT (gN 5) (sFor (iRange2 (dCons (dBin addD (dVar 5) (dC (.int 1))) (dCons (dBin addD (dVar 3) (dC (.int 1))) dNil))) (gN 6) (sDput 4 (dVar 5) (dVar 6) (dFnN 2 sp_law_goes (dCons (dSl (dVar 1) (oSo (dVar 5)) (oSo (dVar 6))) (dCons (dSl (dVar 2) (oSo (dVar 5)) (oSo (dVar 6))) dNil))))) ((List.range' (a + 1) d).map fun x => D.int ((x : Nat) : Int)) ρ2 c2 N R) R c s0 (.va (.int (G.length : Nat))) a (prs G.length a) (by omega) (prs_len _ _) (fun b z => by have := prs_mem.mp z; omega) (G.length - a) (a + 1) s6 (by omega) (by omega) (fun s6 => ih s6)
    simpa using this
end
theorem hs_law_fit_parts (ds : List D) (c : Nat) (Q : D → Nat → Prop) (h : sp_law_fit_parts ds c Q) : t_law_fit_parts sp_law_ticks_of sp_law_goes (startR ["_law_piece_so", "_law_columns_so", "_law_nexts_so", "_law_many_so", "_law_found", "_law_first_so", "_law_last_so"] ds) c (fun _ c' => Q .non c') Q := by
  obtain ⟨n, m, L, G, rfl, ok, lw, h⟩ := h
  have few := ok.few
  have hL := ok.len
  have zl : (zipA L G).length = G.length := by unfold zipA; rw [List.length_zipWith]; omega
  simp [t_law_fit_parts]
  refine ⟨L, G, rfl, ok.fewL, ok.fewG, ?_⟩
  simp [rowsL, zl]
  refine ⟨by omega, ?_⟩
  rw [ivs_nat, List.range_eq_range']
  have := fits_out ok lw (fun ρ c => sFrz 4 (sRet (dVar 4)) ρ c (fun _ c' => Q .non c') Q) Q c (.va (pieceT L G)) (fun s5 s6 => by simpa using h) G.length 0 .no .no (by omega)
  simpa [rowsL, prs, ent] using this
/-! lots -/
def subsF : List Nat → List (List Nat) → List (List Nat)
  | [], f => f
  | x :: xs, f => subsF xs (f ++ f.map fun own => own ++ [x])
theorem subsF_len : ∀ (xs : List Nat) (f : List (List Nat)), (subsF xs f).length = 2 ^ xs.length * f.length
  | [], f => by simp [subsF]
  | x :: xs, f => by
    rw [subsF, subsF_len xs]
    simp only [List.length_append, List.length_map, List.length_cons, Nat.pow_succ]
    rw [← Nat.two_mul, Nat.mul_assoc]
/-- rising, all of them from lo on and below hi -/
def Ris (lo hi : Nat) (own : List Nat) : Prop := own.Pairwise (· < ·) ∧ ∀ x ∈ own, lo ≤ x ∧ x < hi
theorem subsF_mem {lo : Nat} : ∀ (d hi : Nat) (f : List (List Nat)), lo ≤ hi → (∀ own, own ∈ f ↔ Ris lo hi own) → ∀ own, own ∈ subsF (List.range' hi d) f ↔ Ris lo (hi + d) own
  | 0, hi, f, _, h => fun own => h own
  | d + 1, hi, f, hl, h => by
    rw [List.range'_succ, subsF, show hi + (d + 1) = (hi + 1) + d by omega]
    refine subsF_mem d (hi + 1) _ (by omega) fun own => ?_
    rw [List.mem_append, List.mem_map, h]
    constructor
    · rintro (⟨h1, h2⟩ | ⟨o, ho, rfl⟩)
      · exact ⟨h1, fun x hx => by have := h2 x hx; omega⟩
      · obtain ⟨h1, h2⟩ := (h o).mp ho
        refine ⟨List.pairwise_append.mpr ⟨h1, List.pairwise_singleton _ _, fun x hx y hy => ?_⟩, fun x hx => ?_⟩
        · rw [List.mem_singleton.mp hy]; exact (h2 x hx).2
        · rcases List.mem_append.mp hx with hx | hx
          · have := h2 x hx; omega
          · rw [List.mem_singleton.mp hx]; omega
    · rintro ⟨h1, h2⟩
      rcases List.eq_nil_or_concat own with rfl | ⟨o, y, rfl⟩
      · exact .inl ⟨.nil, fun _ z => nomatch z⟩
      · rw [List.concat_eq_append] at h1 h2 ⊢
        obtain ⟨p1, _, p3⟩ := List.pairwise_append.mp h1
        by_cases e : y = hi
        · subst e
          refine .inr ⟨o, (h o).mpr ⟨p1, fun x hx => ⟨(h2 x (by simp [hx])).1, p3 x hx y (List.mem_singleton.mpr rfl)⟩⟩, rfl⟩
        · refine .inl ⟨h1, fun x hx => ?_⟩
          have hy := h2 y (by simp)
          rcases List.mem_append.mp hx with hx' | hx'
          · have := p3 x hx' y (List.mem_singleton.mpr rfl)
            have := h2 x hx
            omega
          · rw [List.mem_singleton.mp hx']; omega
def sp_law_subsets : SpD := fun ds c Q => ∃ xs : List Nat, ds = [intsL xs] ∧ xs.length ≤ 9 ∧ Q (.lst ((subsF xs [[]]).map intsT)) c
theorem subs_loop (N : Rho → Nat → Prop) (R : D → Nat → Prop) (c : Nat) (s0 : Sl) : ∀ (xs : List Nat) (f : List (List Nat)) (s2 : Sl), 2 ^ xs.length * f.length ≤ 1000 → (∀ own ∈ f, own.length + xs.length ≤ 1000) →
    (∀ s2, N [s0, .va (.lst ((subsF xs f).map intsT)), s2, .no] c) →
    forT (gN 2) (sSet .va 1 (dBin addD (dVar 1) (dLc (iSeq (dVar 1)) (gN 3) yesD (dBin addD (dVar 3) (dTup (dCons (dVar 2) dNil))) [3]))) (xs.map fun e => D.int ((e : Nat) : Int)) [s0, .va (.lst (f.map intsT)), s2, .no] c N R
  | [], f, s2, _, _, h => h s2
  | x :: xs, f, s2, hl, hf, h => by
    simp only [List.length_cons] at hl hf
    have h2 : 2 ^ xs.length * (f ++ f.map fun own => own ++ [x]).length ≤ 1000 := by
      simp only [List.length_append, List.length_map]
      rw [Nat.pow_succ, Nat.mul_assoc] at hl
      rw [← Nat.two_mul]
      exact hl
    have hfl : f.length ≤ 1000 := Nat.le_trans (Nat.le_mul_of_pos_left _ (Nat.two_pow_pos _)) hl
    have ih := subs_loop N R c s0 xs (f ++ f.map fun own => own ++ [x]) (.va (.int (x : Nat))) h2 (fun own ho => by
      rcases List.mem_append.mp ho with ho | ho
      · have := hf own ho; omega
      · obtain ⟨o, ho2, rfl⟩ := List.mem_map.mp ho
        have := hf o ho2
        simp only [List.length_append, List.length_singleton]
        omega) h
    simp only [List.map_cons, forT, gN, sSet, dBin, dLc, iSeq, dVar, Kd.sl, List.set, List.getElem?_cons_zero, List.getElem?_cons_succ, Option.some.injEq, Sl.va.injEq, exists_eq_left', forgetR]
    refine ⟨by rw [List.length_map]; omega, lc_map intsT (fun own => intsT (own ++ [x])) _ _ _ (fun own ho Q' q => ?_) ?_⟩
    · have := hf own ho
      simp [intsT]
      refine ⟨by omega, ?_⟩
      simpa [intsT] using q
    · simp
      refine ⟨by omega, ?_⟩
      simpa [Function.comp_def] using ih
theorem hs_law_subsets (ds : List D) (c : Nat) (Q : D → Nat → Prop) (h : sp_law_subsets ds c Q) : t_law_subsets (startR ["_law_things_so", "_law_found", "_law_thing_so", "_law_own"] ds) c (fun _ c' => Q .non c') Q := by
  obtain ⟨xs, rfl, hl, h⟩ := h
  have hp : 2 ^ xs.length * ([[]] : List (List Nat)).length ≤ 1000 := by
    have : 2 ^ xs.length ≤ 2 ^ 9 := Nat.pow_le_pow_right (by decide) hl
    simp
    omega
  have := subs_loop (fun ρ c => sRet (dVar 1) ρ c (fun _ c' => Q .non c') Q) Q c (.va (intsL xs)) xs [[]] .no hp (fun own ho => by
    rw [List.mem_singleton.mp ho]; simp; omega) (fun s2 => by simpa using h)
  simp [t_law_subsets, intsL]
  simpa [intsL, intsT] using this
/-- each step between neighbours fits -/
def okB (F : Nat → Nat → Bool) : Nat → List Nat → Nat → Bool
  | a, [], c => F a c
  | a, p :: ps, c => F a p && okB F p ps c
theorem okB_chn {F : Nat → Nat → Bool} : ∀ {own : List Nat} {a c : Nat}, a < c → own.Pairwise (· < ·) → (∀ x ∈ own, a < x ∧ x < c) → (okB F a own c = true ↔ chn F a own c)
  | [], a, c, h, _, _ => by simp [okB, chn, h]
  | p :: own, a, c, h, pw, hb => by
    obtain ⟨p1, p2⟩ := List.pairwise_cons.mp pw
    obtain ⟨b1, b2⟩ := hb p List.mem_cons_self
    have := okB_chn (F := F) (own := own) (a := p) (c := c) b2 p2 (fun x hx => ⟨p1 x hx, (hb x (List.mem_cons_of_mem _ hx)).2⟩)
    simp [okB, chn, this, b1]
theorem chn_ris {F : Nat → Nat → Bool} : ∀ {own : List Nat} {a c : Nat}, chn F a own c → own.Pairwise (· < ·)
  | [], _, _, _ => .nil
  | p :: own, a, c, h => .cons (fun x hx => ((chn_lt h.2.2).2 x hx).1) (chn_ris h.2.2)
def lotsF (F : Nat → Nat → Bool) (N : Nat) : List (List Nat) := (subsF (List.range' 1 (N - 1)) [[]]).filter fun own => okB F 0 own N
theorem lots_mem {F : Nat → Nat → Bool} {N : Nat} (hN : 0 < N) {own : List Nat} : own ∈ lotsF F N ↔ chn F 0 own N := by
  unfold lotsF
  rw [List.mem_filter, subsF_mem (N - 1) 1 [[]] (Nat.le_refl _) (fun own => ⟨fun h => by rw [List.mem_singleton.mp h]; exact ⟨.nil, fun _ z => nomatch z⟩, fun h => by
    cases own with
    | nil => simp
    | cons x own => have := h.2 x List.mem_cons_self; omega⟩)]
  constructor
  · rintro ⟨⟨h1, h2⟩, h3⟩
    exact (okB_chn hN h1 fun x hx => by have := h2 x hx; omega).mp h3
  · intro h
    have hb := (chn_lt h).2
    have pw := chn_ris h
    exact ⟨⟨pw, fun x hx => by have := hb x hx; omega⟩, (okB_chn hN pw hb).mpr h⟩
def sp_law_lots_of_changes : SpD := fun ds c Q => ∃ (F : Nat → Nat → Bool) (N : Nat), ds = [.dic (ent F (prs N N)), .int (N : Nat)] ∧ 0 < N ∧ N ≤ 10 ∧ Q (.lst ((lotsF F N).map intsT)) c
def pairsOf (a : Nat) : List Nat → Nat → List (Nat × Nat)
  | [], c => [(a, c)]
  | p :: ps, c => (a, p) :: pairsOf p ps c
theorem pairs_zip : ∀ (own : List Nat) (a c : Nat), zipD ((a :: own ++ [c]).map fun e => D.int ((e : Nat) : Int)) ((own ++ [c]).map fun e => D.int ((e : Nat) : Int)) = (pairsOf a own c).map fun p => D.tup [.int (p.1 : Nat), .int (p.2 : Nat)]
  | [], a, c => by simp [zipD, pairsOf]
  | p :: own, a, c => by
    have := pairs_zip own p c
    simp only [List.cons_append, List.map_cons, zipD, pairsOf] at this ⊢
    rw [this]
theorem pairs_ok (F : Nat → Nat → Bool) : ∀ (own : List Nat) (a c : Nat), ((pairsOf a own c).filter fun p => !F p.1 p.2).isEmpty = okB F a own c
  | [], a, c => by
    cases h : F a c <;> simp [pairsOf, okB, h]
  | p :: own, a, c => by
    have := pairs_ok F own p c
    cases h : F a p with
    | false => simp [pairsOf, okB, h]
    | true => simpa [pairsOf, okB, h] using this
theorem pairs_in {N : Nat} : ∀ {own : List Nat} {a : Nat}, a < N → own.Pairwise (· < ·) → (∀ x ∈ own, a < x ∧ x < N) → ∀ p ∈ pairsOf a own N, p ∈ prs N N
  | [], a, h, _, _, p, hp => by
    rw [List.mem_singleton.mp hp]
    exact prs_mem.mpr ⟨h, h, Nat.le_refl _⟩
  | q :: own, a, h, pw, hb, p, hp => by
    obtain ⟨p1, p2⟩ := List.pairwise_cons.mp pw
    obtain ⟨b1, b2⟩ := hb q List.mem_cons_self
    rcases List.mem_cons.mp hp with e | hp
    · rw [e]; exact prs_mem.mpr ⟨h, b1, by omega⟩
    · exact pairs_in b2 p2 (fun x hx => ⟨p1 x hx, (hb x (List.mem_cons_of_mem _ hx)).2⟩) p hp
theorem lots_loop (F : Nat → Nat → Bool) (M : Nat) (hN : 0 < M) (N : Rho → Nat → Prop) (R : D → Nat → Prop) (c : Nat) : ∀ (xs acc : List (List Nat)) (s3 s4 : Sl), (∀ own ∈ xs, Ris 1 M own ∧ own.length ≤ 10) → acc.length + xs.length ≤ 1000 →
    (∀ s3 s4, N [.va (.dic (ent F (prs M M))), .va (.int (M : Nat)), .ow ((acc ++ xs.filter fun own => okB F 0 own M).map intsT), s3, s4, .no, .no] c) →
    forT (gN 3) (sSeq (sSet .va 4 (dBin addD (dBin addD (dTup (dCons (dC (.int 0)) dNil)) (dVar 3)) (dTup (dCons (dVar 1) dNil))))
      (sIf (bT (dBin eqD (dLc (iZipD (dCons (dVar 4) (dCons (dSl (dVar 4) (oSo (dC (.int 1))) oNo) dNil))) (gT 2 (gsCons (gN 5) (gsCons (gN 6) gsNil))) (dNot (bT (dBin dgetD (dVar 0) (dTup (dCons (dVar 5) (dCons (dVar 6) dNil)))))) (dC (.int 1)) [5, 6]) (dLst dNil))) (sApp 2 (dVar 3)) sSkip))
      (xs.map intsT) [.va (.dic (ent F (prs M M))), .va (.int (M : Nat)), .ow (acc.map intsT), s3, s4, .no, .no] c N R
  | [], acc, s3, s4, _, _, h => by simpa [forT] using h s3 s4
  | own :: xs, acc, s3, s4, hr, hl, h => by
    simp only [List.length_cons] at hl
    obtain ⟨⟨r1, r2⟩, r3⟩ := hr own List.mem_cons_self
    have hb : ∀ x ∈ own, 0 < x ∧ x < M := fun x hx => by have := r2 x hx; omega
    have e0 : (D.int 0 :: own.map fun e => D.int ((e : Nat) : Int)) ++ [D.int (M : Nat)] = (0 :: own ++ [M]).map fun e => D.int ((e : Nat) : Int) := by simp
    simp only [List.map_cons, forT, gN, sSeq, sSet, dBin, dTup, dCons, dNil, dC, dVar, Kd.sl, List.set, List.getElem?_cons_zero, List.getElem?_cons_succ, Option.some.injEq, Sl.va.injEq, exists_eq_left', intsT, addD, List.length_cons, List.length_nil, List.length_map, List.length_append, List.singleton_append]
    rw [e0]
    simp only [sIf, bT, dBin, dLc, iZipD, dCons, dNil, dSl, oSo, oNo, dC, dVar, slD, List.getElem?_cons_zero, List.getElem?_cons_succ, Option.some.injEq, Sl.va.injEq, exists_eq_left', D.int.injEq, cut1, forgetR, List.set]
    have e1 : ((0 :: own ++ [M]).map fun e => D.int ((e : Nat) : Int)).drop 1 = (own ++ [M]).map fun e => D.int ((e : Nat) : Int) := by simp
    rw [e1, pairs_zip]
    have pl : (pairsOf 0 own M).length = own.length + 1 := by
      have : ∀ (own : List Nat) (a : Nat), (pairsOf a own M).length = own.length + 1 := by
        intro own
        induction own with
        | nil => intro a; rfl
        | cons p own ih => intro a; simp [pairsOf, ih]
      exact this own 0
    refine ⟨by omega, by omega, by omega, by omega, by rw [List.length_map]; omega, lc_filt _ (fun _ : Nat × Nat => D.int 1) (fun p => !F p.1 p.2) _ _ _ (fun _ _ _ _ _ => trivial) (fun p hp Q' Nx q1 q2 => ?_) ?_⟩
    · have hm := pairs_in hN r1 hb p hp
      simp
      refine ⟨_, _, ⟨rfl, rfl⟩, ?_⟩
      rw [ent_some (show (p.1, p.2) ∈ prs M M from hm)]
      cases hF : F p.1 p.2 with
      | true => exact .inr ⟨rfl, q2 (by simp [hF])⟩
      | false => exact .inl ⟨rfl, q1 (by simp [hF])⟩
    · simp only [List.nil_append, dLst, dNil]
      rw [eqD_nil (fun x hx => by
        obtain ⟨j, _, rfl⟩ := List.mem_map.mp hx
        exact fine_int _ _), List.isEmpty_map, pairs_ok]
      refine ⟨by decide, _, rfl, ?_⟩
      cases hok : okB F 0 own M with
      | true =>
        have ih := lots_loop F M hN N R c xs (acc ++ [own]) (.va (intsT own)) (.va (.tup ((0 :: own ++ [M]).map fun e => D.int ((e : Nat) : Int)))) (fun o ho => hr o (List.mem_cons_of_mem _ ho)) (by simp; omega) (fun s3 s4 => by
          have := h s3 s4
          rw [List.filter_cons_of_pos (by simpa using hok)] at this
          simpa using this)
        simp
        refine ⟨by omega, ?_⟩
        simpa [intsT] using ih
      | false =>
        have ih := lots_loop F M hN N R c xs acc (.va (intsT own)) (.va (.tup ((0 :: own ++ [M]).map fun e => D.int ((e : Nat) : Int)))) (fun o ho => hr o (List.mem_cons_of_mem _ ho)) (by omega) (fun s3 s4 => by
          have := h s3 s4
          rw [List.filter_cons_of_neg (by simp [hok])] at this
          exact this)
        simp
        simpa [intsT] using ih
theorem hs_law_lots_of_changes (ds : List D) (c : Nat) (Q : D → Nat → Prop) (h : sp_law_lots_of_changes ds c Q) : t_law_lots_of_changes sp_law_subsets (startR ["_law_fits_so", "_law_many_so", "_law_found", "_law_own", "_law_ends_so", "_law_near_so", "_law_far_so"] ds) c (fun _ c' => Q .non c') Q := by
  obtain ⟨F, M, rfl, hN, hM, h⟩ := h
  have e1 : ivs 1 (M : Int) = (List.range' 1 (M - 1)).map fun x => D.int ((x : Nat) : Int) := by
    unfold ivs
    rw [show ((M : Int) - 1).toNat = M - 1 by omega, List.range'_eq_map_range, List.map_map]
    exact List.map_congr_left fun i _ => by simp
  simp only [t_law_lots_of_changes, startR, sSeq, sSet, sFor, iSeq, dFnN, dLst, dCons, dNil, dBin, dC, dVar, lrgD, Kd.sl, List.map, List.length, List.replicate, List.append, List.set, HAppend.hAppend, Append.append, List.getElem?_cons_zero, List.getElem?_cons_succ, Option.some.injEq, Sl.va.injEq, exists_eq_left']
  rw [e1]
  refine ⟨by decide, by decide, by decide, by omega, by omega, by trivial, List.range' 1 (M - 1), rfl, by simp; omega, ?_⟩
  have memR : ∀ own ∈ subsF (List.range' 1 (M - 1)) [[]], Ris 1 M own ∧ own.length ≤ 10 := fun own ho => by
    have := (subsF_mem (M - 1) 1 [[]] (Nat.le_refl _) (fun own => ⟨fun h => by rw [List.mem_singleton.mp h]; exact ⟨.nil, fun _ z => nomatch z⟩, fun h => by
      cases own with
      | nil => simp
      | cons x own => have := h.2 x List.mem_cons_self; omega⟩) own).mp ho
    rw [show 1 + (M - 1) = M by omega] at this
    refine ⟨this, ?_⟩
    have key : ∀ (l : List Nat) (lo : Nat), l.Pairwise (· < ·) → (∀ x ∈ l, lo ≤ x ∧ x < M) → l.length + lo ≤ M ∨ l = [] := by
      intro l
      induction l with
      | nil => intro lo _ _; exact .inr rfl
      | cons x l ih =>
        intro lo pw hb
        obtain ⟨p1, p2⟩ := List.pairwise_cons.mp pw
        have hx := hb x List.mem_cons_self
        rcases ih (x + 1) p2 (fun y hy => ⟨p1 y hy, (hb y (List.mem_cons_of_mem _ hy)).2⟩) with k | k
        · simp only [List.length_cons]; omega
        · subst k; simp; omega
    rcases key own 1 this.1 this.2 with k | k
    · omega
    · rw [k]; simp
  have hlen : (subsF (List.range' 1 (M - 1)) [[]]).length ≤ 1000 := by
    rw [subsF_len, List.length_range']
    have : 2 ^ (M - 1) ≤ 2 ^ 9 := Nat.pow_le_pow_right (by decide) (by omega)
    simp
    omega
  have := lots_loop F M hN (fun ρ c => sFrz 2 (sRet (dVar 2)) ρ c (fun _ c' => Q .non c') Q) Q c (subsF (List.range' 1 (M - 1)) [[]]) [] .no .no memR (by simpa using hlen) (fun s3 s4 => by simpa [lotsF] using h)
  simpa using this
end Pd
end
section
set_option Elab.async false
set_option linter.all false
set_option maxRecDepth 100000
/-! PT4: draws. -/
namespace Pd
open Ma L2 Mc
def t_law_of (sp_law_take : SpD) : TSD := (sRet (dBin ixD (dVar 1) (dFnN 2 sp_law_take (dCons (dVar 0) (dCons (dCall len1 (dCons (dVar 1) dNil)) dNil)))))
def t_law_small (sp_law_of : SpD) : TSD := (sRet (dFnN 2 sp_law_of (dCons (dVar 0) (dCons (dLst (dCons (dTup (dCons (dC (.int 0)) (dCons (dC (.int 1)) dNil))) (dCons (dTup (dCons (dC (.int 1)) (dCons (dC (.int 1)) dNil))) (dCons (dTup (dCons (dUn negD (dC (.int 1))) (dCons (dC (.int 1)) dNil))) (dCons (dTup (dCons (dC (.int 2)) (dCons (dC (.int 1)) dNil))) (dCons (dTup (dCons (dC (.int 1)) (dCons (dC (.int 2)) dNil))) (dCons (dTup (dCons (dC (.int 0)) (dCons (dC (.int 1)) dNil))) (dCons (dTup (dCons (dC (.int 0)) (dCons (dC (.int 1)) dNil))) (dCons (dTup (dCons (dC (.int 3)) (dCons (dC (.int 1)) dNil))) (dCons (dTup (dCons (dUn negD (dC (.int 1))) (dCons (dC (.int 3)) dNil))) dNil)))))))))) dNil))))
def t_law_row (sp_law_small : SpD) : TSD := (sRet (dCall tuple1 (dCons (dLc (iRange1 (dCons (dVar 1) dNil)) (gN 2) yesD (dFnN 1 sp_law_small (dCons (dVar 0) dNil)) [2]) dNil)))
def t_law_whole (sp_law_of : SpD) : TSD := (sRet (dFnN 2 sp_law_of (dCons (dVar 0) (dCons (dLst (dCons (dTup (dCons (dC (.int 0)) (dCons (dC (.int 1)) dNil))) (dCons (dTup (dCons (dC (.int 1)) (dCons (dC (.int 1)) dNil))) (dCons (dTup (dCons (dUn negD (dC (.int 1))) (dCons (dC (.int 1)) dNil))) (dCons (dTup (dCons (dC (.int 2)) (dCons (dC (.int 1)) dNil))) (dCons (dTup (dCons (dC (.int 0)) (dCons (dC (.int 1)) dNil))) (dCons (dTup (dCons (dC (.int 1)) (dCons (dC (.int 1)) dNil))) dNil))))))) dNil))))
def t_law_given (sp_law_take sp_law_idle sp_law_whole : SpD) : TSD := (sSeq (sIf (bT (dBin eqD (dFnN 2 sp_law_take (dCons (dVar 0) (dCons (dC (.int 4)) dNil))) (dC (.int 0)))) (sRet (dBin repD (dTup (dCons (dFnN 1 sp_law_idle (dCons (dVar 1) dNil)) dNil)) (dVar 2))) sSkip)
  (sRet (dCall tuple1 (dCons (dLc (iRange1 (dCons (dVar 2) dNil)) (gN 3) yesD (dCall tuple1 (dCons (dLc (iRange1 (dCons (dVar 1) dNil)) (gN 4) yesD (dFnN 1 sp_law_whole (dCons (dVar 0) dNil)) [4]) dNil)) [3]) dNil))))
/-- a draw: any number below n -/
def sp_law_take : SpD := fun ds c Q => ∃ n : Nat, ds = [.tin, .int n] ∧ 0 < n ∧ n ≤ 1000 ∧ c ≤ 100000 ∧ ∀ k : Nat, k < n → Q (.int k) (c + 1)
def sp_law_of : SpD := fun ds c Q => ∃ l : List D, ds = [.tin, .lst l] ∧ 0 < l.length ∧ l.length ≤ 1000 ∧ c ≤ 100000 ∧ ∀ d ∈ l, Q d (c + 1)
theorem hs_law_of (ds : List D) (c : Nat) (Q : D → Nat → Prop) (h : sp_law_of ds c Q) : t_law_of sp_law_take (startR ["_law_tin", "_law_goods_so"] ds) c (fun _ c' => Q .non c') Q := by
  obtain ⟨l, rfl, h1, h2, h3, h⟩ := h
  simp [t_law_of]
  refine ⟨l.length, rfl, h1, h2, h3, fun k hk => ?_⟩
  refine ⟨_, L2.atI_nat (List.getElem?_eq_getElem hk), h _ (List.getElem_mem hk)⟩
def smallL : List Rat := [0, 1, -1, 2, 1/2, 0, 0, 3, -1/3]
def wholeL : List Rat := [0, 1, -1, 2, 0, 1]
def sp_law_small : SpD := fun ds c Q => ds = [.tin] ∧ c ≤ 100000 ∧ ∀ q ∈ smallL, Q (frD q) (c + 1)
def sp_law_whole : SpD := fun ds c Q => ds = [.tin] ∧ c ≤ 100000 ∧ ∀ q ∈ wholeL, Q (frD q) (c + 1)
theorem fr_of (a : Int) (b : Nat) (q : Rat) (h : q.num = a) (h2 : q.den = b) : D.tup [.int a, .int b] = frD q := by
  unfold frD
  rw [h, h2]
theorem small_eq : smallL.map frD = [.tup [.int 0, .int 1], .tup [.int 1, .int 1], .tup [.int (-1), .int 1], .tup [.int 2, .int 1], .tup [.int 1, .int 2], .tup [.int 0, .int 1], .tup [.int 0, .int 1], .tup [.int 3, .int 1], .tup [.int (-1), .int 3]] := by
  have e1 : (1 / 2 : Rat).num = 1 ∧ (1 / 2 : Rat).den = 2 := by decide +kernel
  have e2 : (-1 / 3 : Rat).num = -1 ∧ (-1 / 3 : Rat).den = 3 := by decide +kernel
  simp only [smallL, List.map_cons, List.map_nil, frD, e1.1, e1.2, e2.1, e2.2]
  rfl
theorem whole_eq : wholeL.map frD = [.tup [.int 0, .int 1], .tup [.int 1, .int 1], .tup [.int (-1), .int 1], .tup [.int 2, .int 1], .tup [.int 0, .int 1], .tup [.int 1, .int 1]] := by
  simp only [wholeL, List.map_cons, List.map_nil, frD]
  rfl
theorem hs_law_small (ds : List D) (c : Nat) (Q : D → Nat → Prop) (h : sp_law_small ds c Q) : t_law_small sp_law_of (startR ["_law_tin"] ds) c (fun _ c' => Q .non c') Q := by
  obtain ⟨rfl, h1, h⟩ := h
  simp [t_law_small, -D.tup.injEq]
  refine ⟨smallL.map frD, by rw [small_eq], by simp [smallL], by simp [smallL], h1, fun d hd => ?_⟩
  obtain ⟨q, hq, rfl⟩ := List.mem_map.mp hd
  exact h q hq
theorem hs_law_whole (ds : List D) (c : Nat) (Q : D → Nat → Prop) (h : sp_law_whole ds c Q) : t_law_whole sp_law_of (startR ["_law_tin"] ds) c (fun _ c' => Q .non c') Q := by
  obtain ⟨rfl, h1, h⟩ := h
  simp [t_law_whole, -D.tup.injEq]
  refine ⟨wholeL.map frD, by rw [whole_eq], by simp [wholeL], by simp [wholeL], h1, fun d hd => ?_⟩
  obtain ⟨q, hq, rfl⟩ := List.mem_map.mp hd
  exact h q hq
/-- a comprehension that draws -/
theorem lc_draw {α : Type} {g : TGD} {te : TD} {ρ : Rho} {S : D → Prop} (b C : Nat) (h : α → D) : ∀ (xs : List α) (acc : List D) (c : Nat) (Q : List D → Nat → Prop), c + b * xs.length ≤ C →
    (∀ x ∈ xs, ∀ c1 Q', c1 + b ≤ C → (∀ d c2, S d → c1 ≤ c2 → c2 ≤ c1 + b → Q' d c2) → g (h x) ρ fun ρ1 => te ρ1 c1 Q') →
    (∀ l c2, l.length = xs.length → (∀ d ∈ l, S d) → c ≤ c2 → c2 ≤ c + b * xs.length → Q (acc ++ l) c2) → lcT g yesD te (xs.map h) ρ c acc Q
  | [], acc, c, Q, _, _, k => by
    have := k [] c rfl (fun _ z => nomatch z) (Nat.le_refl _) (by simp)
    simpa [lcT] using this
  | x :: xs, acc, c, Q, hC, he, k => by
    simp only [List.length_cons, Nat.mul_succ] at hC
    have h1 := he x List.mem_cons_self c (fun y c2 => lcT g yesD te (xs.map h) ρ c2 (acc ++ [y]) Q) (by omega) (fun d c2 hd h1 h2 => lc_draw b C h xs (acc ++ [d]) c2 Q (by omega) (fun y hy => he y (List.mem_cons_of_mem _ hy)) (fun l c3 q1 q2 q3 q4 => by
      have := k (d :: l) c3 (by simp [q1]) (fun e he => by
        rcases List.mem_cons.mp he with z | he
        · rw [z]; exact hd
        · exact q2 e he) (by omega) (by simp only [List.length_cons, Nat.mul_succ]; omega)
      simpa using this))
    simpa [lcT] using h1
theorem row_of {P : Rat → Prop} : ∀ {l : List D}, (∀ d ∈ l, ∃ q, d = frD q ∧ P q) → ∃ r : Row, l = r.map frD ∧ ∀ x ∈ r, P x
  | [], _ => ⟨[], rfl, fun _ z => nomatch z⟩
  | d :: l, h => by
    obtain ⟨q, rfl, hq⟩ := h d List.mem_cons_self
    obtain ⟨r, rfl, hr⟩ := row_of (l := l) fun e he => h e (List.mem_cons_of_mem _ he)
    refine ⟨q :: r, rfl, fun x hx => ?_⟩
    rcases List.mem_cons.mp hx with z | hx
    · rw [z]; exact hq
    · exact hr x hx
theorem rows_of {P : Row → Prop} : ∀ {l : List D}, (∀ d ∈ l, ∃ q, d = rowT q ∧ P q) → ∃ r : List Row, l = r.map rowT ∧ ∀ x ∈ r, P x
  | [], _ => ⟨[], rfl, fun _ z => nomatch z⟩
  | d :: l, h => by
    obtain ⟨q, rfl, hq⟩ := h d List.mem_cons_self
    obtain ⟨r, rfl, hr⟩ := rows_of (l := l) fun e he => h e (List.mem_cons_of_mem _ he)
    refine ⟨q :: r, rfl, fun x hx => ?_⟩
    rcases List.mem_cons.mp hx with z | hx
    · rw [z]; exact hq
    · exact hr x hx
def sp_law_row : SpD := fun ds c Q => ∃ n : Nat, ds = [.tin, .int n] ∧ n ≤ 1000 ∧ c ≤ 50000 ∧ ∀ r c', r.length = n → (∀ x ∈ r, x ∈ smallL) → c ≤ c' → c' ≤ c + n → Q (rowT r) c'
theorem hs_law_row (ds : List D) (c : Nat) (Q : D → Nat → Prop) (h : sp_law_row ds c Q) : t_law_row sp_law_small (startR ["_law_tin", "_law_size_so", "_law_k"] ds) c (fun _ c' => Q .non c') Q := by
  obtain ⟨n, rfl, h1, h2, h⟩ := h
  simp [t_law_row]
  rw [ivs_nat]
  refine ⟨by omega, by simp; omega, lc_draw (S := fun d => ∃ q, d = frD q ∧ q ∈ smallL) 1 90000 _ _ _ _ _ (by simp; omega) (fun x hx c1 Q' hc k => ?_) (fun l c2 e hl q1 q2 => ?_)⟩
  · simp
    exact ⟨rfl, by omega, fun q hq => k _ _ ⟨q, rfl, hq⟩ (by omega) (by omega)⟩
  · obtain ⟨r, rfl, hr⟩ := row_of hl
    have := h r c2 (by simpa using e) hr q1 (by simpa using q2)
    simpa [rowT] using this
def sp_law_given : SpD := fun ds c Q => ∃ m t : Nat, ds = [.tin, .int m, .int t] ∧ m ≤ 100 ∧ 0 < t ∧ t ≤ 100 ∧ c ≤ 50000 ∧ ∀ G c', G.length = t → (∀ r ∈ G, r.length = m ∧ ∀ x ∈ r, x ∈ wholeL) → c ≤ c' → c' ≤ c + 1 + m * t → Q (rowsT G) c'
theorem hs_law_given (ds : List D) (c : Nat) (Q : D → Nat → Prop) (h : sp_law_given ds c Q) : t_law_given sp_law_take sp_law_idle sp_law_whole (startR ["_law_tin", "_law_m_so", "_law_ticks_so", "_law_k", "_law_j"] ds) c (fun _ c' => Q .non c') Q := by
  obtain ⟨m, t, rfl, h1, h2, h3, h4, h⟩ := h
  have mt : m * t ≤ 100 * 100 := Nat.mul_le_mul h1 h3
  simp only [t_law_given, startR, sSeq, sIf, bT, dBin, dFnN, dCons, dNil, dVar, dC, List.map, List.length, List.replicate, List.append, HAppend.hAppend, Append.append, List.getElem?_cons_zero, List.getElem?_cons_succ, Option.some.injEq, Sl.va.injEq, exists_eq_left']
  refine ⟨by trivial, 4, rfl, by decide, by decide, by omega, fun k hk => ?_⟩
  simp only [eqD_int]
  refine ⟨_, rfl, ?_⟩
  by_cases hk0 : k = 0
  · subst hk0
    simp
    refine ⟨m, rfl, by omega, by omega, ?_⟩
    have := h (List.replicate t (List.replicate m 0)) (c + 1) (by simp) (fun r hr => by
      rw [List.mem_replicate] at hr
      rw [hr.2]
      refine ⟨by simp, fun x hx => ?_⟩
      rw [List.mem_replicate] at hx
      rw [hx.2]
      decide +kernel) (by omega) (by omega)
    first
      | (rw [flat_rep]; simpa [rowsT] using this)
      | simpa [rowsT] using this
  · have hk1 : ¬ ((k : Int) = 0) := by omega
    simp [hk0]
    rw [ivs_nat]
    refine ⟨by omega, by simp; omega, lc_draw (S := fun d => ∃ r, d = rowT r ∧ (r.length = m ∧ ∀ x ∈ r, x ∈ wholeL)) m 90000 _ _ _ _ _ (by simp; omega) (fun x hx c1 Q' hc kk => ?_) (fun l c2 e hl q1 q2 => ?_)⟩
    · simp
      rw [ivs_nat]
      refine ⟨by omega, by simp; omega, lc_draw (S := fun d => ∃ q, d = frD q ∧ q ∈ wholeL) 1 90000 _ _ _ _ _ (by simp; omega) (fun x hx c1 Q' hc k => ?_) (fun l c2 e hl q1 q2 => ?_)⟩
      · simp
        exact ⟨rfl, by omega, fun q hq => k _ _ ⟨q, rfl, hq⟩ (by omega) (by omega)⟩
      · obtain ⟨r, rfl, hr⟩ := row_of hl
        have e' : r.length = m := by simpa using e
        have := kk (rowT r) c2 ⟨r, rfl, e', hr⟩ q1 (by simpa using q2)
        simpa [rowT] using this
    · obtain ⟨G, rfl, hG⟩ := rows_of hl
      have e' : G.length = t := by simpa using e
      have := h G c2 e' hG (by omega) (by simp at q2; omega)
      simpa [rowsT] using this
end Pd
end
section
set_option Elab.async false
set_option linter.all false
set_option maxRecDepth 100000
set_option exponentiation.threshold 10000
/-! PT5: pieces of small sizes keep all of both checks' sizes. -/
namespace Pd
open Ma L2 Mc
structure PcB (n m : Nat) (L G : List Row) : Prop where
  n1 : 1 ≤ n
  n2 : n ≤ 2
  m2 : m ≤ 2
  len : L.length = G.length + 1
  pos : 0 < G.length
  few : G.length ≤ 7
  ln : ∀ r ∈ L, r.length = n ∧ ∀ x ∈ r, Sb (6 ^ 8) (2 ^ 44) x
  gm : ∀ r ∈ G, r.length = m ∧ ∀ x ∈ r, Sb 1 2 x
section
variable {n m : Nat} {L G : List Row} (p : PcB n m L G) {a b : Nat} (hab : a < b) (hb : b ≤ G.length)
include p hab hb
theorem cols_len : (colsP L G a b).length = b - a := by
  unfold colsP zipA
  have := p.len
  rw [List.length_zipWith, seg_len _ _ _ (by omega), seg_len _ _ _ hb]
  omega
theorem next_len : (nextP L a b).length = b - a := by
  unfold nextP
  have := p.len
  rw [List.length_drop, seg_len _ _ _ (by omega)]
  omega
omit hab hb in
theorem cols_mem {r : Row} (h : r ∈ colsP L G a b) : ∃ x ∈ L, ∃ y ∈ G, r = x ++ y := by
  unfold colsP zipA at h
  rw [List.mem_iff_getElem] at h
  obtain ⟨i, hi, e⟩ := h
  rw [List.length_zipWith] at hi
  rw [List.getElem_zipWith] at e
  exact ⟨_, seg_mem (List.getElem_mem (by omega)), _, seg_mem (List.getElem_mem (by omega)), e.symm⟩
omit hab hb in
theorem next_mem {r : Row} (h : r ∈ nextP L a b) : r ∈ L := seg_mem (List.mem_of_mem_drop h)
omit hab hb in
theorem inp_sb {y : Row} (hy : y ∈ G) : ∀ x ∈ y, Sb (6 ^ 8) (2 ^ 44) x := fun x hx => by
  have := ((p.gm y hy).2 x hx).scale (k := 6 ^ 8)
  rw [Nat.one_mul] at this
  exact this.mono (by decide +kernel)
omit hab hb in
theorem cols_bnd {r : Row} (h : r ∈ colsP L G a b) : r.length = n + m ∧ ∀ x ∈ r, Sb (6 ^ 8) (2 ^ 44) x := by
  obtain ⟨x, hx, y, hy, rfl⟩ := cols_mem p h
  refine ⟨by rw [List.length_append, (p.ln x hx).1, (p.gm y hy).1], fun q hq => ?_⟩
  rcases List.mem_append.mp hq with hq | hq
  · exact (p.ln x hx).2 q hq
  · exact inp_sb p hy q hq
theorem col_ok {W : Nat} (hW : W ≤ 6) {rows : List Row} (h : ∀ r ∈ rows, r.length = W ∧ ∀ x ∈ r, Sb (6 ^ 8) (2 ^ 44) x) : ColOk rows W := by
  have := (steps_ok (n := W) (rows := rows) (M := fun k => match k with | 0 => 2 ^ 44 | 1 => 2 ^ 89 | 2 => 2 ^ 179 | 3 => 2 ^ 359 | 4 => 2 ^ 719 | 5 => 2 ^ 1439 | _ => 2 ^ 2879) (fun r hr => (h r hr).1)
    ⟨6 ^ 8, by decide +kernel, by decide +kernel, fun r hr => bnd_of (h r hr).2⟩ (fun k hk => by
      have : k = 0 ∨ k = 1 ∨ k = 2 ∨ k = 3 ∨ k = 4 ∨ k = 5 := by omega
      rcases this with rfl | rfl | rfl | rfl | rfl | rfl <;> decide +kernel) (fun k hk => by
      have : k = 0 ∨ k = 1 ∨ k = 2 ∨ k = 3 ∨ k = 4 ∨ k = 5 ∨ k = 6 := by omega
      rcases this with rfl | rfl | rfl | rfl | rfl | rfl | rfl <;> decide +kernel) W (Nat.le_refl _)).2.2.2
  exact fun k hk => this k hk
theorem lw_of : ColOk (colsP L G a b) (n + m) ∧ ColOk (wideF (colsP L G a b) (nextP L a b)) (n + m + n) := by
  have h1 := p.n2
  have h2 := p.m2
  refine ⟨col_ok p hab hb (by omega) fun r hr => cols_bnd p hr, col_ok p hab hb (by omega) fun r hr => ?_⟩
  have hl := wide_rows (w := n + m) (n := n) (cols := colsP L G a b) (nexts := nextP L a b) (fun r hr => (cols_bnd p hr).1) (fun r hr => (p.ln r (next_mem p hr)).1) r hr
  refine ⟨hl, fun x hx => ?_⟩
  unfold wideF at hr
  rw [List.mem_iff_getElem] at hr
  obtain ⟨i, hi, e⟩ := hr
  rw [List.length_zipWith] at hi
  rw [List.getElem_zipWith] at e
  rw [← e] at hx
  rcases List.mem_append.mp hx with hx | hx
  · exact (cols_bnd p (List.getElem_mem (by omega))).2 x hx
  · exact (p.ln _ (next_mem p (List.getElem_mem (by omega)))).2 x hx
/-- the rows of the places -/
theorem pl_rb : ∀ (i : Nat) (r : Row), (plF (colsP L G a b) (n + m))[i]? = some r → ∀ k, k ≤ 0 + i → Ma.RB (if k < 2 then 2 ^ 44 else 2) r := by
  intro i r h k hk
  have h1 := p.n1
  have h2 := p.n2
  have hi : i < n + m := by
    have := (List.getElem?_eq_some_iff.mp h).1
    simpa [plF] using this
  have er : r = (colsP L G a b).map fun r => r.getD i 0 := by
    unfold plF at h
    rw [List.getElem?_map, List.getElem?_range hi] at h
    exact (Option.some.inj h).symm
  have mem : ∀ x ∈ r, ∃ q ∈ colsP L G a b, x = q.getD i 0 := fun x hx => by
    rw [er] at hx
    obtain ⟨q, hq, e⟩ := List.mem_map.mp hx
    exact ⟨q, hq, e.symm⟩
  have big : Ma.RB (2 ^ 44) r := ⟨6 ^ 8, by decide +kernel, by decide +kernel, fun q hq => by
    rw [List.mem_singleton.mp hq]
    exact bnd_of fun x hx => by
      obtain ⟨q, hq, rfl⟩ := mem x hx
      obtain ⟨l, s⟩ := cols_bnd p hq
      exact s _ (getD_mem (by omega))⟩
  by_cases hin : n ≤ i
  · have small : Ma.RB 2 r := ⟨1, by decide, by decide, fun q hq => by
      rw [List.mem_singleton.mp hq]
      exact bnd_of fun x hx => by
        obtain ⟨q, hq, rfl⟩ := mem x hx
        obtain ⟨u, hu, y, hy, rfl⟩ := cols_mem p hq
        have e : (u ++ y).getD i 0 = y.getD (i - n) 0 := by
          rw [app_get (p.ln u hu).1, if_neg (by omega)]
        rw [e]
        exact (p.gm y hy).2 _ (getD_mem (by rw [(p.gm y hy).1]; omega))⟩
    split
    · exact big
    · exact small
  · rw [if_pos (by omega)]
    exact big
end
end Pd
end
section
set_option Elab.async false
set_option linter.all false
set_option maxRecDepth 100000
set_option exponentiation.threshold 10000
/-! PT6: pieces of small sizes: the program's check. -/
namespace Pd
open Ma L2 Mc
theorem null_rb {D M T : Nat} {lines : List Row} (R : Rd T lines) (h0 : 0 < D) (hD : D ≤ M) (hf : ∀ f ∈ lines, Bnd D M f) (r : Row) (h : r ∈ zerosF lines T) : Ma.RB M r := by
  obtain ⟨q, hq, rfl⟩ := List.mem_map.mp h
  obtain ⟨q1, q2⟩ := List.mem_filter.mp hq
  refine ⟨D, h0, hD, fun x hx => ?_⟩
  rw [List.mem_singleton.mp hx]
  intro i
  by_cases hi : i < T
  · by_cases hl : ∃ g ∈ lines, lead g = i
    · obtain ⟨g, hg, e⟩ := hl
      subst e
      rw [nul_lead R hg]
      obtain ⟨z, e, b⟩ := hf g hg q
      refine ⟨-z, ?_, by rw [Int.natAbs_neg]; exact b⟩
      rw [Rat.intCast_neg, ← e]; grind
    · rw [nul_free R hi fun g hg e => hl ⟨g, hg, e⟩]
      split
      · exact ⟨(D : Int), by rw [natR]; grind, by rw [Int.natAbs_natCast]; exact hD⟩
      · exact Sb.zero
  · rw [List.getD, List.getElem?_eq_none (by rw [null_len]; omega)]
    exact Sb.zero
theorem cnt {T : Nat} : ∀ (ls : List Nat), ls.Nodup → (∀ x ∈ ls, x < T) → ((List.range T).filter fun p => !ls.contains p).length + ls.length ≤ T := by
  intro ls hn hb
  have h1 := nat_nodup_len ls ((List.range T).filter fun p => ls.contains p) hn fun x hx => List.mem_filter.mpr ⟨List.mem_range.mpr (hb x hx), by simpa using hx⟩
  have h2 : ((List.range T).filter fun p => ls.contains p).length + ((List.range T).filter fun p => !ls.contains p).length = T := by
    have key : ∀ l : List Nat, (l.filter fun p => ls.contains p).length + (l.filter fun p => !ls.contains p).length = l.length := by
      intro l
      induction l with
      | nil => rfl
      | cons x l ih =>
        simp only [List.filter_cons, List.length_cons]
        cases ls.contains x
        · simp only [Bool.not_false, Bool.false_eq_true, if_true, if_false, List.length_cons]; omega
        · simp only [Bool.not_true, Bool.false_eq_true, if_true, if_false, List.length_cons]; omega
    have := key (List.range T)
    rw [List.length_range] at this
    exact this
  omega
theorem zeros_cnt {T : Nat} {lines : List Row} (R : Rd T lines) : (zerosF lines T).length + lines.length ≤ T := by
  unfold zerosF
  rw [List.length_map]
  have := cnt (T := T) (lines.map lead) (by
    rw [List.nodup_iff_pairwise_ne, List.pairwise_map]
    exact R.leads) (fun x hx => by
    obtain ⟨f, hf, rfl⟩ := List.mem_map.mp hx
    exact R.lead_lt hf)
  rw [List.length_map] at this
  exact this
theorem wok_of {D M n : Nat} (h0 : 0 < D) (hD : D ≤ M) (hM : M ≤ 2 ^ 4270) : ∀ (ws : Row) (rs : List Row) (acc : Row) (j : Nat), Bnd D M ws → (∀ r ∈ rs, r.length = n ∧ Bnd (6 ^ 8) (2 ^ 44) r) → acc.length = n → Bnd (6 ^ 8 * D) (j * (2 ^ 44 * M)) acc → j + ws.length ≤ 8 → WOk ws rs acc
  | [], _, _, _, _, _, _, _, _ => by unfold WOk; trivial
  | _ :: _, [], _, _, _, _, _, _, _ => by unfold WOk; trivial
  | w :: ws, r :: rs, acc, j, hw, hr, ha, hb, hj => by
    have hS : 8 * (2 ^ 44 * M) < 2 ^ 4400 := Nat.lt_of_le_of_lt (Nat.mul_le_mul_left _ (Nat.mul_le_mul_left _ hM)) (by decide +kernel)
    have hM2 : M ≤ 2 ^ 44 * M := Nat.le_mul_of_pos_left _ (by decide +kernel)
    obtain ⟨r1, r2⟩ := hr r List.mem_cons_self
    have hw0 := hw.mem w List.mem_cons_self
    have hDD : 6 ^ 8 * D ≤ 2 ^ 44 * M := Nat.mul_le_mul (by decide +kernel) hD
    have D0 : 0 < 6 ^ 8 * D := Nat.mul_pos (by decide +kernel) h0
    obtain ⟨z, e, bz⟩ := hw0
    have hsc : Bnd (6 ^ 8 * D) (2 ^ 44 * M) (scR r w) := r2.sc' e bz
    have hjm : j * (2 ^ 44 * M) ≤ 8 * (2 ^ 44 * M) := Nat.mul_le_mul_right _ (by simp only [List.length_cons] at hj; omega)
    refine ⟨(show Sb D M w from ⟨z, e, bz⟩).sm h0 (by omega) (by omega), sms_of r2 (by decide +kernel) (by decide +kernel) (by decide +kernel), sms_of hb D0 (by omega) (by omega), sms_of hsc D0 (by omega) (by omega), by omega, ?_⟩
    refine wok_of h0 hD hM ws rs _ (j + 1) (bnd_of fun x hx => hw.mem x (List.mem_cons_of_mem _ hx)) (fun q hq => hr q (List.mem_cons_of_mem _ hq)) (by rw [addR_len _ _ (by rw [scR_len]; omega)]; exact ha) ?_ (by simp only [List.length_cons] at hj; omega)
    have e9 : (j + 1) * (2 ^ 44 * M) = j * (2 ^ 44 * M) + 2 ^ 44 * M := Nat.succ_mul _ _
    rw [e9]
    exact Bnd.add (by rw [scR_len]; omega) hb hsc
section
variable {n m : Nat} {L G : List Row} (p : PcB n m L G) {a b : Nat} (hab : a < b) (hb : b ≤ G.length)
include p hab hb
theorem ck_of : CkOk n m (colsP L G a b) (nextP L a b) := by
  have h1 := p.n1
  have h2 := p.n2
  have h3 := p.m2
  have h4 := p.few
  have cl := cols_len p hab hb
  have hrows : ∀ r ∈ plF (colsP L G a b) (n + m), r.length = (colsP L G a b).length := fun r hr => by
    obtain ⟨q, _, rfl⟩ := List.mem_map.mp hr
    simp
  have main := rok_of (n := (colsP L G a b).length) (K := n + m) (M := fun k => 2 ^ E0 k) (B := fun k => if k < 2 then 2 ^ 44 else 2) (fun k hk => e0_ok k (by omega)) (fun k hk => Nat.lt_of_le_of_lt (Nat.pow_le_pow_right (by decide) (e0_le k (by omega))) (by decide +kernel))
    (plF (colsP L G a b) (n + m)) [] (rd_nil _) hrows (by simp [plF]) ⟨1, by decide, by decide, fun _ z => nomatch z⟩ (pl_rb p hab hb)
  obtain ⟨ok1, k, hk, hk2, F⟩ := main
  have hk5 : k < 5 := by omega
  have R0 := redF_rd hrows
  have two : ∀ lines : List Row, lines.Perm (redF (plF (colsP L G a b) (n + m))) → ROk [] (zerosF lines (colsP L G a b).length) ∧ ∃ j, j ≤ 7 - k ∧ FB (2 ^ E2 k j) (redF (zerosF lines (colsP L G a b).length)) := fun lines pl => by
    have R := R0.perm pl
    obtain ⟨D, d0, dD, df⟩ := F.perm pl
    have hkl : lines.length = k := by rw [pl.length_eq, hk]; rfl
    have hc := zeros_cnt R
    have := rok_of (n := (colsP L G a b).length) (K := 7 - k) (M := fun j => 2 ^ E2 k j) (B := fun _ => 2 ^ E0 k) (fun j hj => e2_ok k hk5 j hj) (fun j hj => Nat.lt_of_le_of_lt (Nat.pow_le_pow_right (by decide) (e2_le k hk5 j (by omega))) (by decide +kernel))
      (zerosF lines (colsP L G a b).length) [] (rd_nil _) (fun r hr => zeros_len r hr) (by simp; omega) ⟨1, by decide, Nat.one_le_two_pow, fun _ z => nomatch z⟩ (fun i r hr _ _ => null_rb R d0 dD df r (List.mem_of_getElem? hr))
    obtain ⟨o, j, _, hj, FF⟩ := this
    exact ⟨o, j, hj, FF⟩
  refine ⟨by omega, by omega, by omega, fun r hr => (cols_bnd p hr).1, by rw [next_len p hab hb, cl], fun r hr => (p.ln r (next_mem p hr)).1, ok1, fun lines pl => (two lines pl).1, fun lines outs pl po u hu => ?_⟩
  obtain ⟨_, j, hj, FF⟩ := two lines pl
  obtain ⟨D, d0, dD, df⟩ := FF.perm po
  have ul : u.length = (colsP L G a b).length := (redF_rd (n := (colsP L G a b).length) fun r hr => zeros_len r hr).len u (po.mem_iff.mp hu)
  refine wok_of (n := n) d0 dD (Nat.pow_le_pow_right (by decide) (e2_le k hk5 j (by omega))) u (nextP L a b) _ 0 (df u hu) (fun r hr => ⟨(p.ln r (next_mem p hr)).1, bnd_of (p.ln r (next_mem p hr)).2⟩) (by simp) (fun i => ?_) (by omega)
  have e : (List.replicate n (0 : Rat)).getD i 0 = 0 := by
    simp only [List.getD, List.getElem?_replicate]
    split <;> rfl
  rw [e]
  exact Sb.zero
omit hab hb in
theorem pc_of : PcOk n m L G ∧ PcLw n m L G := by
  have h1 := p.n2
  have h2 := p.m2
  have h3 := p.few
  exact ⟨⟨p.len, p.pos, by omega, by omega, fun r hr => (p.ln r hr).1, fun r hr => (p.gm r hr).1, fun a b hab hb => ck_of p hab hb⟩, fun a b hab hb => lw_of p hab hb⟩
end
end Pd
end
section
set_option Elab.async false
set_option linter.all false
set_option maxRecDepth 100000
set_option exponentiation.threshold 10000
/-! PT7: drawn pieces. -/
namespace Pd
open Ma L2 Mc
def t_law_drawn_piece (sp_law_of sp_law_shifted sp_law_machine sp_law_row sp_law_given sp_law_take sp_law_on sp_law_whole : SpD) : TSD := (sSeq (sAsg (dTup (dCons (dFnN 2 sp_law_of (dCons (dVar 0) (dCons (dLst (dCons (dC (.int 1)) (dCons (dC (.int 1)) (dCons (dC (.int 1)) (dCons (dC (.int 2)) dNil))))) dNil))) (dCons (dFnN 2 sp_law_of (dCons (dVar 0) (dCons (dLst (dCons (dC (.int 0)) (dCons (dC (.int 1)) (dCons (dC (.int 1)) (dCons (dC (.int 0)) (dCons (dC (.int 2)) dNil)))))) dNil))) (dCons (dFnN 2 sp_law_of (dCons (dVar 0) (dCons (dLst (dCons (dC (.int 1)) (dCons (dC (.int 3)) (dCons (dC (.int 4)) (dCons (dC (.int 5)) (dCons (dC (.int 6)) (dCons (dC (.int 6)) (dCons (dC (.int 7)) dNil)))))))) dNil))) dNil)))) (gT 3 (gsCons (gN 1) (gsCons (gN 2) (gsCons (gN 3) gsNil)))))
  (sSeq (sSet .va 4 (dLc (iRange1 (dCons (dC (.int 3)) dNil)) (gN 5) yesD (dFnN 2 sp_law_shifted (dCons (dVar 0) (dCons (dFnN 3 sp_law_machine (dCons (dVar 0) (dCons (dVar 1) (dCons (dVar 2) dNil)))) dNil))) [5]))
  (sSeq (sPar3 .ow .va .va 6 7 8 (dLst (dCons (dFnN 2 sp_law_row (dCons (dVar 0) (dCons (dVar 1) dNil))) dNil)) (dFnN 3 sp_law_given (dCons (dVar 0) (dCons (dVar 2) (dCons (dVar 3) dNil)))) (dC (.int 0)))
  (sSeq (sFor (iRange1 (dCons (dVar 3) dNil)) (gN 9) (sSeq (sSet .va 8 (dBin addD (dVar 8) (dCall int1 (dCons (vAnd (dBin gtD (dVar 9) (dC (.int 0))) (dBin ltD (dFnN 2 sp_law_take (dCons (dVar 0) (dCons (dC (.int 5)) dNil))) (dC (.int 2)))) dNil))))
  (sApp 6 (dFnN 3 sp_law_on (dCons (dBin ixD (dVar 4) (dCall minI2 (dCons (dVar 8) (dCons (dC (.int 2)) dNil)))) (dCons (dBin ixD (dOwn 6) (dUn negD (dC (.int 1)))) (dCons (dBin ixD (dVar 7) (dVar 9)) dNil)))))))
  (sSeq (sIf (bT (dBin eqD (dFnN 2 sp_law_take (dCons (dVar 0) (dCons (dC (.int 5)) dNil))) (dC (.int 0)))) (sSeq (sSet .va 10 (dFnN 2 sp_law_take (dCons (dVar 0) (dCons (dBin addD (dVar 3) (dC (.int 1))) dNil))))
  (sPut 6 (dVar 10) (dCall tuple1 (dCons (dLc (iRange1 (dCons (dVar 1) dNil)) (gN 9) yesD (dFnN 1 sp_law_whole (dCons (dVar 0) dNil)) [9]) dNil)))) sSkip)
  (sRet (dTup (dCons (dCall tuple1 (dCons (dOwn 6) dNil)) (dCons (dVar 7) dNil)))))))))
structure MOk (N n m : Nat) (A B : List Row) : Prop where
  la : A.length = n
  lb : B.length = n
  ra : ∀ r ∈ A, r.length = n ∧ ∀ x ∈ r, Sb 6 N x
  rb : ∀ r ∈ B, r.length = m ∧ ∀ x ∈ r, Sb 1 2 x
def sp_law_machine : SpD := fun ds c Q => ∃ n m : Nat, ds = [.tin, .int n, .int m] ∧ 1 ≤ n ∧ n ≤ 2 ∧ m ≤ 2 ∧ c ≤ 50000 ∧ ∀ A B c', MOk 12 n m A B → c ≤ c' → c' ≤ c + 100 → Q (machD A B) c'
def sp_law_shifted : SpD := fun ds c Q => ∃ (n m : Nat) (A B : List Row), ds = [.tin, machD A B] ∧ 1 ≤ n ∧ n ≤ 2 ∧ m ≤ 2 ∧ MOk 12 n m A B ∧ c ≤ 50000 ∧ ∀ A' c', MOk 24 n m A' B → c ≤ c' → c' ≤ c + 100 → Q (machD A' B) c'
def sp_law_drawn_piece : SpD := fun ds c Q => ds = [.tin] ∧ c ≤ 1000 ∧ ∀ n m L G c', PcB n m L G → c' ≤ c + 1000 → Q (pieceT L G) c'
theorem sb_of {D M : Nat} {q : Rat} (h : (q * (D : Rat)).den = 1 ∧ (q * (D : Rat)).num.natAbs ≤ M) : Sb D M q := by
  refine ⟨(q * (D : Rat)).num, ?_, h.2⟩
  have e := rat_eq (q * (D : Rat))
  rw [h.1] at e
  have : ((((1 : Nat) : Int)) : Rat) = 1 := rfl
  rw [this] at e
  grind
theorem small_sb : ∀ q ∈ smallL, Sb 6 18 q := fun q hq => sb_of ((by decide +kernel : ∀ q ∈ smallL, (q * ((6 : Nat) : Rat)).den = 1 ∧ (q * ((6 : Nat) : Rat)).num.natAbs ≤ 18) q hq)
theorem whole_sb : ∀ q ∈ wholeL, Sb 1 2 q := fun q hq => sb_of ((by decide +kernel : ∀ q ∈ wholeL, (q * ((1 : Nat) : Rat)).den = 1 ∧ (q * ((1 : Nat) : Rat)).num.natAbs ≤ 2) q hq)
theorem dot_ok {E N D M : Nat} (hE : 0 < E) (hD : 0 < D) (bE : E < 2 ^ 4400) (bN : N < 2 ^ 4400) (bD : D < 2 ^ 4400) (bM : M < 2 ^ 4400) (bED : E * D < 2 ^ 4400) : ∀ (r s : Row) (acc : Rat) (K : Nat), (∀ x ∈ r, Sb E N x) → (∀ y ∈ s, Sb D M y) → Sb (E * D) K acc → K + r.length * (N * M) < 2 ^ 4400 →
    DOk acc r s ∧ Sb (E * D) (K + r.length * (N * M)) (dotA acc r s)
  | [], s, acc, K, _, _, ha, _ => ⟨by unfold DOk; trivial, by simpa [dotA] using ha⟩
  | x :: r, [], acc, K, _, _, ha, _ => ⟨by unfold DOk; trivial, by simpa [dotA] using ha.mono (by omega)⟩
  | x :: r, y :: s, acc, K, hr, hs, ha, hK => by
    have e : (x :: r).length * (N * M) = r.length * (N * M) + N * M := Nat.succ_mul _ _
    rw [e] at hK ⊢
    have hx := hr x List.mem_cons_self
    have hy := hs y List.mem_cons_self
    have hxy := hx.mul hy
    obtain ⟨a, b⟩ := dot_ok hE hD bE bN bD bM bED r s (acc + x * y) (K + N * M) (fun z hz => hr z (List.mem_cons_of_mem _ hz)) (fun z hz => hs z (List.mem_cons_of_mem _ hz)) (ha.add hxy) (by omega)
    have hED : 0 < E * D := Nat.mul_pos hE hD
    exact ⟨⟨ha.sm hED bED (by omega), hx.sm hE bE bN, hy.sm hD bD bM, hxy.sm hED bED (by omega), a⟩, b.mono (by omega)⟩
def vv : Nat → Nat
  | 0 => 3
  | t + 1 => 8 * vv t + 8
theorem vv_le : ∀ t, t < 8 → vv t * 6 ^ 8 ≤ 2 ^ 44 := by decide +kernel
/-- one step of a machine -/
theorem on_ok {n m t : Nat} (hn : n ≤ 2) (hm : m ≤ 2) (ht : t < 7) {A B : List Row} (MO : MOk 24 n m A B) {x g : Row} (hx : ∀ q ∈ x, Sb (6 ^ (t + 1)) (vv t * 6 ^ (t + 1)) q) (hg : ∀ q ∈ g, Sb 1 2 q) :
    (∀ own ∈ A, DOk 0 own x) ∧ (∀ own ∈ B, DOk 0 own g) ∧ Sms (nextF A x) ∧ Sms (nextF B g) ∧ (onF A B x g).length = n ∧ ∀ q ∈ onF A B x g, Sb (6 ^ (t + 2)) (vv (t + 1) * 6 ^ (t + 2)) q := by
  have p1 : 6 ^ (t + 1) ≤ 6 ^ 8 := Nat.pow_le_pow_right (by decide) (by omega)
  have p2 : 6 ^ (t + 2) = 6 * 6 ^ (t + 1) := by rw [Nat.pow_succ, Nat.mul_comm]
  have p0 : 0 < 6 ^ (t + 1) := Nat.pow_pos (by decide)
  have v1 : vv t * 6 ^ (t + 1) ≤ 2 ^ 44 := Nat.le_trans (Nat.mul_le_mul_left _ p1) (vv_le t (by omega))
  have big : (2 : Nat) ^ 100 < 2 ^ 4400 := by decide +kernel
  have b8 : (6 : Nat) ^ 8 < 2 ^ 44 := by decide +kernel
  have b44 : (2 : Nat) ^ 44 * 1000 < 2 ^ 100 := by decide +kernel
  generalize hV : vv t * 6 ^ (t + 1) = V at *
  have dA : ∀ own ∈ A, DOk 0 own x ∧ Sb (6 * 6 ^ (t + 1)) (0 + own.length * (24 * V)) (dotA 0 own x) := fun own ho => dot_ok (by decide) p0 (by omega) (by omega) (by omega) (by omega) (by omega) own x 0 0 (MO.ra own ho).2 hx Sb.zero (by
    rw [(MO.ra own ho).1]
    have : n * (24 * V) ≤ 2 * (24 * V) := Nat.mul_le_mul_right _ hn
    omega)
  have dB : ∀ own ∈ B, DOk 0 own g ∧ Sb (1 * 1) (0 + own.length * (2 * 2)) (dotA 0 own g) := fun own ho => dot_ok (by decide) (by decide) (by omega) (by omega) (by omega) (by omega) (by omega) own g 0 0 (MO.rb own ho).2 hg Sb.zero (by
    rw [(MO.rb own ho).1]
    omega)
  have nA : ∀ q ∈ nextF A x, Sb (6 ^ (t + 2)) (48 * V) q := fun q hq => by
    obtain ⟨own, ho, rfl⟩ := List.mem_map.mp hq
    rw [p2]
    refine (dA own ho).2.mono ?_
    rw [(MO.ra own ho).1]
    have : n * (24 * V) ≤ 2 * (24 * V) := Nat.mul_le_mul_right _ hn
    omega
  have nB : ∀ q ∈ nextF B g, Sb 1 8 q := fun q hq => by
    obtain ⟨own, ho, rfl⟩ := List.mem_map.mp hq
    refine (dB own ho).2.mono ?_
    rw [(MO.rb own ho).1]
    omega
  refine ⟨fun own ho => (dA own ho).1, fun own ho => (dB own ho).1, fun q hq => (nA q hq).sm (Nat.pow_pos (by decide)) (by omega) (by omega), fun q hq => (nB q hq).sm (by decide) (by omega) (by omega), ?_, fun q hq => ?_⟩
  · unfold onF
    rw [addR_len _ _ (by simp [nextF, MO.la, MO.lb])]
    simp [nextF, MO.la]
  · unfold onF addR at hq
    rw [List.mem_iff_getElem] at hq
    obtain ⟨i, hi, e⟩ := hq
    rw [List.length_zipWith] at hi
    rw [List.getElem_zipWith] at e
    rw [← e]
    have h1 := nA _ (List.getElem_mem (l := nextF A x) (n := i) (by omega))
    have h2 := (nB _ (List.getElem_mem (l := nextF B g) (n := i) (by omega))).scale (k := 6 ^ (t + 2))
    rw [Nat.one_mul] at h2
    refine (h1.add h2).mono ?_
    have e2 : vv (t + 1) * 6 ^ (t + 2) = 48 * V + 8 * 6 ^ (t + 2) := by
      rw [← hV]
      show (8 * vv t + 8) * 6 ^ (t + 2) = _
      rw [p2, Nat.add_mul]
      congr 1
      rw [show (48 : Nat) = 8 * 6 from rfl, Nat.mul_assoc 8 (vv t), Nat.mul_assoc 8 6]
      congr 1
      rw [← Nat.mul_assoc, Nat.mul_comm (vv t) 6, Nat.mul_assoc]
    omega
end Pd
end
section
set_option Elab.async false
set_option linter.all false
set_option maxRecDepth 100000
set_option exponentiation.threshold 10000
/-! PT8: drawn_piece. -/
namespace Pd
open Ma L2 Mc
theorem machs_of {n m : Nat} : ∀ {l : List D}, (∀ d ∈ l, ∃ A B, d = machD A B ∧ MOk 24 n m A B) → ∃ ms : List (List Row × List Row), l = ms.map (fun q => machD q.1 q.2) ∧ ∀ q ∈ ms, MOk 24 n m q.1 q.2
  | [], _ => ⟨[], rfl, fun _ z => nomatch z⟩
  | d :: l, h => by
    obtain ⟨A, B, rfl, hq⟩ := h d List.mem_cons_self
    obtain ⟨r, rfl, hr⟩ := machs_of (l := l) fun e he => h e (List.mem_cons_of_mem _ he)
    refine ⟨(A, B) :: r, rfl, fun x hx => ?_⟩
    rcases List.mem_cons.mp hx with z | hx
    · rw [z]; exact hq
    · exact hr x hx
theorem at_last (l : List Row) (x : Row) : atI ((l ++ [x]).map rowT) (-1) = some (rowT x) := by
  unfold atI ixN
  simp
  rw [if_pos (by omega)]
  have e : (-1 + ((l.length : Int) + 1)).toNat = l.length := by omega
  simp [e]
/-- what a line is, row by row -/
def LineOk (n : Nat) (line : List Row) : Prop := ∀ t r, line[t]? = some r → r.length = n ∧ ∀ q ∈ r, Sb (6 ^ (t + 1)) (vv t * 6 ^ (t + 1)) q
theorem line_loop {n m T : Nat} (hn : n ≤ 2) (hm : m ≤ 2) (hT : T ≤ 7) {ms : List (List Row × List Row)} (hms : ms.length = 3) (hM : ∀ q ∈ ms, MOk 24 n m q.1 q.2) {G : List Row} (hG : G.length = T) (hg : ∀ r ∈ G, r.length = m ∧ ∀ x ∈ r, x ∈ wholeL)
    (N : Rho → Nat → Prop) (R : D → Nat → Prop) (C : Nat) (hC : C ≤ 60000) (s1 s2 s3 s5 s10 : Sl) (h : ∀ line c s8 s9, line.length = T + 1 → LineOk n line → c ≤ C → N [.va .tin, s1, s2, s3, .va (.lst (ms.map fun q => machD q.1 q.2)), s5, .ow (line.map rowT), .va (rowsT G), s8, s9, s10] c) : ∀ (d k : Nat) (line : List Row) (now c : Nat) (s9 : Sl), k + d = T → line.length = k + 1 → LineOk n line → c + d ≤ C →
    forT (gN 9) (sSeq (sSet .va 8 (dBin addD (dVar 8) (dCall int1 (dCons (vAnd (dBin gtD (dVar 9) (dC (.int 0))) (dBin ltD (dFnN 2 sp_law_take (dCons (dVar 0) (dCons (dC (.int 5)) dNil))) (dC (.int 2)))) dNil))))
      (sApp 6 (dFnN 3 sp_law_on (dCons (dBin ixD (dVar 4) (dCall minI2 (dCons (dVar 8) (dCons (dC (.int 2)) dNil)))) (dCons (dBin ixD (dOwn 6) (dUn negD (dC (.int 1)))) (dCons (dBin ixD (dVar 7) (dVar 9)) dNil)))))) ((List.range' k d).map fun x => D.int ((x : Nat) : Int))
      [.va .tin, s1, s2, s3, .va (.lst (ms.map fun q => machD q.1 q.2)), s5, .ow (line.map rowT), .va (rowsT G), .va (.int (now : Nat)), s9, s10] c N R
  | 0, k, line, now, c, s9, e, hl, ok, hc => by
    have : k = T := by omega
    subst this
    exact h line c _ s9 hl ok (by omega)
  | d + 1, k, line, now, c, s9, e, hl, ok, hc => by
    -- what stands behind the count
    have body : ∀ (now' c' : Nat), c' ≤ c + 1 → sApp 6 (dFnN 3 sp_law_on (dCons (dBin ixD (dVar 4) (dCall minI2 (dCons (dVar 8) (dCons (dC (.int 2)) dNil)))) (dCons (dBin ixD (dOwn 6) (dUn negD (dC (.int 1)))) (dCons (dBin ixD (dVar 7) (dVar 9)) dNil))))
        [.va .tin, s1, s2, s3, .va (.lst (ms.map fun q => machD q.1 q.2)), s5, .ow (line.map rowT), .va (rowsT G), .va (.int (now' : Nat)), .va (.int (k : Nat)), s10] c' (fun ρ2 c2 => forT (gN 9) (sSeq (sSet .va 8 (dBin addD (dVar 8) (dCall int1 (dCons (vAnd (dBin gtD (dVar 9) (dC (.int 0))) (dBin ltD (dFnN 2 sp_law_take (dCons (dVar 0) (dCons (dC (.int 5)) dNil))) (dC (.int 2)))) dNil))))
      (sApp 6 (dFnN 3 sp_law_on (dCons (dBin ixD (dVar 4) (dCall minI2 (dCons (dVar 8) (dCons (dC (.int 2)) dNil)))) (dCons (dBin ixD (dOwn 6) (dUn negD (dC (.int 1)))) (dCons (dBin ixD (dVar 7) (dVar 9)) dNil)))))) ((List.range' (k + 1) d).map fun x => D.int ((x : Nat) : Int)) ρ2 c2 N R) R := fun now' c' hc' => by
      obtain ⟨pre, x, rfl⟩ : ∃ pre x, line = pre ++ [x] := by
        rcases List.eq_nil_or_concat line with z | ⟨p, x, z⟩
        · rw [z] at hl; simp at hl
        · exact ⟨p, x, by rw [z, List.concat_eq_append]⟩
      have hpl : pre.length = k := by simpa using hl
      obtain ⟨x1, x2⟩ := ok k x (by rw [← hpl]; simp)
      have hgk : (G[k]'(by omega)) ∈ G := List.getElem_mem _
      have atg : atI (G.map rowT) ((k : Nat) : Int) = some (rowT (G[k]'(by omega))) := L2.atI_nat (by rw [List.getElem?_map, List.getElem?_eq_getElem (by omega)]; rfl)
      obtain ⟨g1, g2⟩ := hg _ hgk
      generalize G[k]'(by omega) = g at *
      obtain ⟨i, hi, ei⟩ : ∃ i : Nat, i < 3 ∧ (if (2 : Int) < (now' : Int) then (2 : Int) else (now' : Int)) = ((i : Nat) : Int) := by
        by_cases h2 : (2 : Int) < (now' : Int)
        · exact ⟨2, by decide, by rw [if_pos h2]; rfl⟩
        · exact ⟨now', by omega, by rw [if_neg h2]⟩
      have atm : atI (ms.map fun q => machD q.1 q.2) ((i : Nat) : Int) = some (machD (ms[i]'(by omega)).1 (ms[i]'(by omega)).2) := L2.atI_nat (by rw [List.getElem?_map, List.getElem?_eq_getElem (by omega)]; rfl)
      have MO := hM _ (List.getElem_mem (l := ms) (n := i) (by omega))
      generalize ms[i]'(by omega) = mc at *
      obtain ⟨o1, o2, o3, o4, o5, o6⟩ := on_ok hn hm (by omega) MO x2 (fun q hq => whole_sb q (g2 q hq))
      have al := at_last pre x
      simp only [sApp, dFnN, dCons, dNil, dBin, dVar, dOwn, dCall, dC, dUn, negD, minI2, List.getElem?_cons_zero, List.getElem?_cons_succ, Option.some.injEq, Sl.va.injEq, Sl.ow.injEq, exists_eq_left', List.length, rowsT, ixD, ei]
      refine ⟨_, atm, _, al, _, atg, by trivial, mc.1, mc.2, x, g, rfl, by rw [MO.la]; omega, by rw [MO.lb]; omega, o1, o2, o3, o4, by simp; omega, ?_⟩
      have ih := line_loop hn hm hT hms hM hG hg N R C hC s1 s2 s3 s5 s10 h d (k + 1) (pre ++ [x] ++ [onF mc.1 mc.2 x g]) now' c' (.va (.int (k : Nat))) (by omega) (by simp; omega) (fun t r hr => by
        by_cases ht : t < (pre ++ [x]).length
        · rw [List.getElem?_append_left ht] at hr
          exact ok t r hr
        · rw [List.getElem?_append_right (by omega)] at hr
          have ht2 : t - (pre ++ [x]).length = 0 := by
            have := (List.getElem?_eq_some_iff.mp hr).1
            simp at this
            omega
          rw [ht2] at hr
          have et : t = k + 1 := by simp at ht ht2; omega
          subst et
          cases hr
          exact ⟨o5, o6⟩) (by omega)
      simpa [rowsT] using ih
    simp only [List.range'_succ, List.map_cons, forT, gN, sSeq, sSet, dBin, dVar, dCall, dCons, dNil, vAnd, dC, gtD, ltD, Kd.sl, List.set, List.getElem?_cons_zero, List.getElem?_cons_succ, Option.some.injEq, Sl.va.injEq, exists_eq_left']
    by_cases hk : 0 < k
    · have e1 : decide ((k : Int) > 0) = true := by simpa using hk
      refine ⟨_, rfl, ?_⟩
      rw [e1]
      simp only [if_true, dFnN, dCons, dNil, dVar, dC, List.getElem?_cons_zero, Option.some.injEq, Sl.va.injEq, exists_eq_left', List.length]
      refine ⟨by trivial, 5, rfl, by decide, by decide, by omega, fun v hv => ?_⟩
      simp only [ltD, int1, addD]
      by_cases hv2 : (v : Int) < 2
      · rw [decide_eq_true hv2]
        exact body (now + 1) (c + 1) (Nat.le_refl _)
      · rw [decide_eq_false hv2]
        exact body now (c + 1) (Nat.le_refl _)
    · have e1 : decide ((k : Int) > 0) = false := by simpa using hk
      refine ⟨_, rfl, ?_⟩
      rw [e1]
      simp only [Bool.false_eq_true, if_false, int1, addD]
      exact body now c (by omega)
theorem line_pcb {n m T : Nat} (h1 : 1 ≤ n) (hn : n ≤ 2) (hm : m ≤ 2) (hT0 : 0 < T) (hT : T ≤ 7) {G : List Row} (hG : G.length = T) (hg : ∀ r ∈ G, r.length = m ∧ ∀ x ∈ r, x ∈ wholeL) {line : List Row} (hl : line.length = T + 1) (ok : LineOk n line) : PcB n m line G := by
  refine ⟨h1, hn, hm, by omega, by omega, by omega, fun r hr => ?_, fun r hr => ⟨(hg r hr).1, fun x hx => whole_sb x ((hg r hr).2 x hx)⟩⟩
  obtain ⟨t, ht, e⟩ := List.mem_iff_getElem.mp hr
  obtain ⟨a, b⟩ := ok t r (by rw [List.getElem?_eq_getElem ht, e])
  refine ⟨a, fun x hx => ?_⟩
  have := (b x hx).scale (k := 6 ^ (7 - t))
  rw [← Nat.pow_add, show t + 1 + (7 - t) = 8 by omega, Nat.mul_assoc, ← Nat.pow_add, show t + 1 + (7 - t) = 8 by omega] at this
  exact this.mono (vv_le t (by omega))
theorem pcb_set {n m : Nat} {L G : List Row} (p : PcB n m L G) (i : Nat) (r : Row) (hr : r.length = n) (h : ∀ x ∈ r, x ∈ wholeL) : PcB n m (L.set i r) G := by
  refine ⟨p.n1, p.n2, p.m2, by rw [List.length_set]; exact p.len, p.pos, p.few, fun q hq => ?_, p.gm⟩
  rcases List.mem_or_eq_of_mem_set hq with hq | rfl
  · exact p.ln q hq
  · refine ⟨hr, fun x hx => ?_⟩
    have := (whole_sb x (h x hx)).scale (k := 6 ^ 8)
    rw [Nat.one_mul] at this
    exact this.mono (by decide +kernel)
theorem hs_law_drawn_piece (ds : List D) (c : Nat) (Q : D → Nat → Prop) (h : sp_law_drawn_piece ds c Q) : t_law_drawn_piece sp_law_of sp_law_shifted sp_law_machine sp_law_row sp_law_given sp_law_take sp_law_on sp_law_whole
    (startR ["_law_tin", "_law_n_so", "_law_m_so", "_law_ticks_so", "_law_machines_so", "_law_lap", "_law_line_so", "_law_given_so", "_law_now_so", "_law_k", "_law_spot_so"] ds) c (fun _ c' => Q .non c') Q := by
  obtain ⟨rfl, hc, h⟩ := h
  simp only [t_law_drawn_piece, startR, sSeq, sAsg, dTup, dFnN, dCons, dNil, dLst, dC, dVar, List.map, List.length, List.replicate, List.append, List.set, HAppend.hAppend, Append.append, List.getElem?_cons_zero, List.getElem?_cons_succ, Option.some.injEq, Sl.va.injEq, exists_eq_left']
  refine ⟨by decide, by trivial, _, rfl, by decide, by decide, by omega, fun dn hn => ⟨by decide, by trivial, _, rfl, by decide, by decide, by omega, fun dm hm => ⟨by decide, by trivial, _, rfl, by decide, by decide, by omega, fun dt ht => ?_⟩⟩⟩
  obtain ⟨n, rfl, n1, n2⟩ : ∃ n : Nat, dn = .int n ∧ 1 ≤ n ∧ n ≤ 2 := by
    simp at hn
    rcases hn with rfl | rfl
    · exact ⟨1, rfl, by decide, by decide⟩
    · exact ⟨2, rfl, by decide, by decide⟩
  obtain ⟨m, rfl, m2⟩ : ∃ m : Nat, dm = .int m ∧ m ≤ 2 := by
    simp at hm
    rcases hm with rfl | rfl | rfl | rfl
    · exact ⟨0, rfl, by decide⟩
    · exact ⟨1, rfl, by decide⟩
    · exact ⟨0, rfl, by decide⟩
    · exact ⟨2, rfl, by decide⟩
  obtain ⟨T, rfl, T0, T7⟩ : ∃ T : Nat, dt = .int T ∧ 0 < T ∧ T ≤ 7 := by
    simp at ht
    rcases ht with rfl | rfl | rfl | rfl | rfl | rfl
    · exact ⟨1, rfl, by decide, by decide⟩
    · exact ⟨3, rfl, by decide, by decide⟩
    · exact ⟨4, rfl, by decide, by decide⟩
    · exact ⟨5, rfl, by decide, by decide⟩
    · exact ⟨6, rfl, by decide, by decide⟩
    · exact ⟨7, rfl, by decide, by decide⟩
  have mT : m * T ≤ 2 * 7 := Nat.mul_le_mul m2 T7
  simp only [gT, gsCons, gsNil, gN, List.length, List.set, sSet, dLc, iRange1, dC, dCons, dNil, Kd.sl, forgetR]
  refine ⟨by trivial, by decide, by decide, by decide, ?_⟩
  rw [show (3 : Int) = ((3 : Nat) : Int) from rfl, ivs_nat]
  refine ⟨by simp, ?_⟩
  refine lc_draw (S := fun d => ∃ A B, d = machD A B ∧ MOk 24 n m A B) 200 40000 _ _ _ _ _ (by rw [List.length_range]; omega) (fun x hx c1 Q' hc1 kk => ?_) (fun l c2 el hl q1 q2 => ?_)
  · simp
    refine ⟨n, m, rfl, n1, n2, m2, by omega, fun A B c3 MO d1 d2 => ⟨n, m, A, B, rfl, n1, n2, m2, MO, by omega, fun A' c4 MO' d3 d4 => kk _ c4 ⟨A', B, rfl, MO'⟩ (by omega) (by omega)⟩⟩
  · obtain ⟨ms, rfl, hM⟩ := machs_of hl
    have hms : ms.length = 3 := by simpa using el
    simp only [List.length_range] at q2
    simp only [List.nil_append, sPar3, dLst, dFnN, dCons, dNil, dVar, dC, Kd.sl, List.length, List.set, List.getElem?_cons_zero, List.getElem?_cons_succ, Option.some.injEq, Sl.va.injEq, exists_eq_left']
    refine ⟨by trivial, n, rfl, by omega, by omega, fun r c3 r1 r2 r3 r4 => ⟨by omega, by trivial, m, T, rfl, by omega, T0, by omega, by omega, fun G c4 g1 g2 g3 g4 => ?_⟩⟩
    simp only [sFor, iRange1, dCons, dNil, dVar, List.getElem?_cons_zero, List.getElem?_cons_succ, Option.some.injEq, Sl.va.injEq, exists_eq_left']
    refine ⟨by omega, by omega, ?_⟩
    rw [ivs_nat, List.range_eq_range']
    have ok0 : LineOk n [r] := fun t q hq => by
      have ht : t = 0 := by
        have := (List.getElem?_eq_some_iff.mp hq).1
        simpa using this
      subst ht
      cases hq
      exact ⟨r1, fun x hx => small_sb x (r2 x hx)⟩
    have := line_loop (T := T) n2 m2 T7 hms hM g1 g2
      (fun ρ c => sSeq (sIf (bT (dBin eqD (dFnN 2 sp_law_take (dCons (dVar 0) (dCons (dC (.int 5)) dNil))) (dC (.int 0)))) (sSeq (sSet .va 10 (dFnN 2 sp_law_take (dCons (dVar 0) (dCons (dBin addD (dVar 3) (dC (.int 1))) dNil))))
  (sPut 6 (dVar 10) (dCall tuple1 (dCons (dLc (iRange1 (dCons (dVar 1) dNil)) (gN 9) yesD (dFnN 1 sp_law_whole (dCons (dVar 0) dNil)) [9]) dNil)))) sSkip)
  (sRet (dTup (dCons (dCall tuple1 (dCons (dOwn 6) dNil)) (dCons (dVar 7) dNil)))) ρ c (fun _ c' => Q .non c') Q) Q (c4 + T) (by omega) (.va (.int (n : Nat))) (.va (.int (m : Nat))) (.va (.int (T : Nat))) .no .no (fun line c5 s8 s9 l1 l2 l3 => ?_) T 0 [r] 0 c4 .no (by omega) rfl ok0 (Nat.le_refl _)
    · simpa [rowsT, rowT] using this
    · have pc := line_pcb n1 n2 m2 T0 T7 g1 g2 l1 l2
      simp only [sSeq, sIf, bT, dBin, dFnN, dCons, dNil, dVar, dC, List.getElem?_cons_zero, List.getElem?_cons_succ, Option.some.injEq, Sl.va.injEq, exists_eq_left', List.length]
      refine ⟨by trivial, 5, rfl, by decide, by decide, by omega, fun v hv => ?_⟩
      simp only [eqD_int]
      refine ⟨_, rfl, ?_⟩
      have last : ∀ (LL : List Row) (c6 : Nat) (s8 s9 s10 : Sl), PcB n m LL G → c6 ≤ c + 1000 → sRet (dTup (dCons (dCall tuple1 (dCons (dOwn 6) dNil)) (dCons (dVar 7) dNil))) [.va .tin, .va (.int (n : Nat)), .va (.int (m : Nat)), .va (.int (T : Nat)), .va (.lst (ms.map fun q => machD q.1 q.2)), .no, .ow (LL.map rowT), .va (rowsT G), s8, s9, s10] c6 (fun _ c' => Q .non c') Q := fun LL c6 s8 s9 s10 pp d1 => by
        simp
        exact h n m LL G c6 pp d1
      by_cases hv0 : v = 0
      · subst hv0
        simp only [decide_true, if_true, sSeq, sSet, dFnN, dCons, dNil, dVar, dBin, dC, addD, Kd.sl, List.set, List.getElem?_cons_zero, List.getElem?_cons_succ, Option.some.injEq, Sl.va.injEq, exists_eq_left', List.length]
        refine ⟨by trivial, T + 1, by simp, by omega, by omega, by omega, fun sp hsp => ?_⟩
        simp only [sPut, dCall, dCons, dNil, dLc, iRange1, dVar, List.set, List.getElem?_cons_zero, List.getElem?_cons_succ, Option.some.injEq, Sl.va.injEq, Sl.ow.injEq, exists_eq_left', forgetR]
        refine ⟨by omega, by omega, by simp [ivs]; omega, ?_⟩
        rw [ivs_nat]
        refine lc_draw (S := fun d => ∃ q, d = frD q ∧ q ∈ wholeL) 1 90000 _ _ _ _ _ (by rw [List.length_range]; omega) (fun x hx c1 Q' hc k => ?_) (fun l c6 e hl q1 q2 => ?_)
        · simp
          exact ⟨rfl, by omega, fun q hq => k _ _ ⟨q, rfl, hq⟩ (by omega) (by omega)⟩
        · obtain ⟨rr, rfl, hr⟩ := row_of hl
          have e' : rr.length = n := by simpa using e
          rw [List.length_range] at q2
          simp only [List.nil_append, tuple1]
          refine ⟨sp, sp, rfl, ixN_nat' (by rw [List.length_map]; omega), ?_⟩
          have es : (line.map rowT).set sp (rowT rr) = (line.set sp rr).map rowT := by rw [List.map_set]
          have := last (line.set sp rr) c6 s8 s9 (.va (.int (sp : Nat))) (pcb_set pc sp rr e' hr) (by omega)
          rw [← es] at this
          simpa [rowT] using this
      · have hv1 : ¬ ((v : Int) = 0) := by omega
        simp only [decide_eq_false hv1, Bool.false_eq_true, if_false, sSkip]
        exact last line (c5 + 1) s8 s9 .no pc (by omega)
end Pd
end
section
set_option Elab.async false
set_option linter.all false
set_option maxRecDepth 100000
/-! PT9: parts of parts that fit fit. -/
namespace Pd
open Ma L2 Mc
theorem sumF_cut {s k : Nat} (f : Nat → Rat) : ∀ {n : Nat}, s + k ≤ n → sumF n (fun i => if s ≤ i ∧ i < s + k then f (i - s) else 0) = sumF k f := by
  intro n
  induction n with
  | zero =>
    intro h
    have : k = 0 := by omega
    subst this; rfl
  | succ n ih =>
    intro h
    by_cases hk : s + k ≤ n
    · simp only [sumF]
      rw [ih hk, if_neg (by omega)]; grind
    · have e : s + k = n + 1 := by omega
      clear ih
      have key : ∀ j, j ≤ k → sumF (s + j) (fun i => if s ≤ i ∧ i < s + k then f (i - s) else 0) = sumF j f := by
        intro j
        induction j with
        | zero => intro _; exact sumF_zero fun i hi => if_neg (by omega)
        | succ j ihj =>
          intro hj
          show sumF (s + j + 1) _ = _
          simp only [sumF]
          rw [ihj (by omega), if_pos (by omega), show s + j - s = j by omega]
      rw [← e]
      exact key k (Nat.le_refl _)
theorem seg_get {α : Type} (l : List α) (d : α) (a b i : Nat) (h : i < b - a) : (seg l a b).getD i d = l.getD (a + i) d := by
  unfold seg
  simp only [List.getD, List.getElem?_take, if_pos h, List.getElem?_drop]
theorem colsP_get {L G : List Row} {a b i : Nat} (hG : b ≤ G.length) (hL : L.length = G.length + 1) (h : i < b - a) : (colsP L G a b).getD i [] = L.getD (a + i) [] ++ G.getD (a + i) [] := by
  rw [← zip_seg L G a b hG hL, seg_get _ _ _ _ _ h]
  unfold zipA
  simp only [List.getD, List.getElem?_zipWith, List.getElem?_eq_getElem (show a + i < L.length by omega), List.getElem?_eq_getElem (show a + i < G.length by omega), Option.getD_some]
theorem nextP_get {L : List Row} {a b i : Nat} (h : i < b - a) : (nextP L a b).getD i [] = L.getD (a + i + 1) [] := by
  rw [← next_seg, seg_get _ _ _ _ _ h]
  simp only [List.getD, List.getElem?_drop]
  rw [show 1 + (a + i) = a + i + 1 by omega]
theorem colsP_len {L G : List Row} {a b : Nat} (hG : b ≤ G.length) (hL : L.length = G.length + 1) : (colsP L G a b).length = b - a := by
  unfold colsP zipA
  rw [List.length_zipWith, seg_len _ _ _ (by omega), seg_len _ _ _ hG]
  omega
theorem fit_mono {n m : Nat} {L G : List Row} (p : PcOk n m L G) : Mono (fitB n m L G) G.length := by
  intro a b a' b' h1 h2 h3 h4 hf
  have g := fitB_iff.mp hf
  refine fitB_iff.mpr fun v hv j hj => ?_
  have hL := p.len
  have l1 : (colsP L G a b).length = b - a := colsP_len h4 hL
  have l2 : (colsP L G a' b').length = b' - a' := colsP_len (by omega) hL
  rw [l2] at hv ⊢
  unfold Gr at g
  rw [l1] at g
  have cut : ∀ X : Nat → Rat, sumF (b - a) (fun i => (if a' - a ≤ i ∧ i < a' - a + (b' - a') then v (i - (a' - a)) else 0) * X (a + i)) = sumF (b' - a') (fun i => v i * X (a' + i)) := fun X => by
    rw [← sumF_cut (s := a' - a) (k := b' - a') (fun i => v i * X (a' + i)) (n := b - a) (by omega)]
    refine sumF_ext fun i hi => ?_
    by_cases h : a' - a ≤ i ∧ i < a' - a + (b' - a')
    · rw [if_pos h, if_pos h, show a' + (i - (a' - a)) = a + i by omega]
    · rw [if_neg h, if_neg h]; grind
  have := g (fun i => if a' - a ≤ i ∧ i < a' - a + (b' - a') then v (i - (a' - a)) else 0) (fun q hq => by
    have e : sumF (b - a) (fun i => (if a' - a ≤ i ∧ i < a' - a + (b' - a') then v (i - (a' - a)) else 0) * ((colsP L G a b).getD i []).getD q 0) = sumF (b - a) (fun i => (if a' - a ≤ i ∧ i < a' - a + (b' - a') then v (i - (a' - a)) else 0) * (L.getD (a + i) [] ++ G.getD (a + i) []).getD q 0) := sumF_ext fun i hi => by rw [colsP_get h4 hL hi]
    rw [e, cut fun i => (L.getD i [] ++ G.getD i []).getD q 0]
    exact (sumF_ext fun i hi => by rw [colsP_get (by omega) hL hi]).trans (hv q hq)) j hj
  have e : sumF (b - a) (fun i => (if a' - a ≤ i ∧ i < a' - a + (b' - a') then v (i - (a' - a)) else 0) * ((nextP L a b).getD i []).getD j 0) = sumF (b - a) (fun i => (if a' - a ≤ i ∧ i < a' - a + (b' - a') then v (i - (a' - a)) else 0) * (L.getD (a + i + 1) []).getD j 0) := sumF_ext fun i hi => by rw [nextP_get hi]
  rw [e, cut fun i => (L.getD (i + 1) []).getD j 0] at this
  exact (sumF_ext fun i hi => by rw [nextP_get hi]).trans this
end Pd
end
section
set_option Elab.async false
set_option linter.all false
set_option maxRecDepth 100000
/-! PU0: piece_right: the plain part. -/
namespace Pd
open Ma L2 Mc
noncomputable def sp_law_heard : SpD := fun ds c Q => ∃ (n m : Nat) (L G : List Row) (d : D) (door : Int), ds = [.int door, d] ∧ IsPc d L G ∧ PcOk n m L G ∧ (door = 0 ∨ door = 1) ∧
  (AllFit n m L G → (door = 0 → ∀ B, Bk (fitB n m L G) G.length B → Q (intsT B.reverse.tail) c) ∧ (door = 1 → ∀ E, Fr (fitB n m L G) G.length 0 E → Q (intsT E.dropLast) c)) ∧ (¬ AllFit n m L G → Q .non c)
noncomputable def sp_law_refused : SpD := fun ds c Q => ∃ (n m : Nat) (L G : List Row) (d : D) (door : Int), ds = [.int door, d] ∧ IsPc d L G ∧ PcOk n m L G ∧ (door = 0 ∨ door = 1) ∧ ¬ AllFit n m L G ∧ Q (.bl true) c
def sp_law_piece_right : SpD := fun ds c Q => ∃ n m L G, ds = [.tin, pieceT L G] ∧ PcB n m L G ∧ c ≤ 3000 ∧ ∀ c', Q (.bl true) c'
theorem lot_fit {F : Nat → Nat → Bool} {N : Nat} (M : Mono F N) {a : Nat} : ∀ {own : List Nat} {s : Nat}, chn F s own N → s ≤ a → a < N → F a (a + 1) = true
  | [], s, h, h1, h2 => M s N a (a + 1) h1 (by omega) (by omega) (Nat.le_refl _) h.2
  | p :: own, s, h, h1, h2 => by
    obtain ⟨c1, c2, c3⟩ := h
    by_cases hp : p ≤ a
    · exact lot_fit M c3 hp h2
    · exact M s p a (a + 1) h1 (by omega) (by omega) (by have := (chn_lt c3).1; omega) c2
section
variable {F : Nat → Nat → Bool} {N : Nat} {E B : List Nat} (hN : 0 < N) (M : Mono F N) (hE : Fr F N 0 E) (hB : Bk F N B)
def bestF (F : Nat → Nat → Bool) (N K : Nat) : List (List Nat) := (lotsF F N).filter fun own => decide (own.length + 1 = K)
include hN M hE hB
omit hE hB M in
theorem best_mem {K : Nat} {own : List Nat} : own ∈ bestF F N K ↔ chn F 0 own N ∧ own.length + 1 = K := by
  unfold bestF
  rw [List.mem_filter, lots_mem hN]
  simp
omit hB in
theorem min_len (m : Int) (h1 : m ∈ (lotsF F N).map fun own => (own.length : Int)) (h2 : ∀ y ∈ (lotsF F N).map fun own => (own.length : Int), m ≤ y) : m = (E.length : Int) - 1 := by
  obtain ⟨own, ho, rfl⟩ := List.mem_map.mp h1
  have k1 := lot_min hN M hE ((lots_mem hN).mp ho)
  have k2 := h2 _ (List.mem_map.mpr ⟨_, (lots_mem hN).mpr (lot_front hN hE), rfl⟩)
  have k3 := (fr_init hN hE).2
  omega
theorem min_place {j : Nat} (hj : j + 1 < E.length) (m : Int) (h1 : m ∈ (bestF F N E.length).map fun own => (own.getD j 0 : Int)) (h2 : ∀ y ∈ (bestF F N E.length).map fun own => (own.getD j 0 : Int), m ≤ y) : m = (B.reverse.tail.getD j 0 : Nat) := by
  have hs := same_len hN M hE hB
  have k3 := (bk_init hN hB).2
  have et : B.reverse.tail = B.dropLast.reverse := by rw [List.tail_reverse]
  have low : ∀ own ∈ bestF F N E.length, B.dropLast.reverse.getD j 0 ≤ own.getD j 0 := fun own ho => by
    obtain ⟨c1, c2⟩ := (best_mem hN).mp ho
    have hj' : j < own.length := by omega
    have eo : own = own.take j ++ own.getD j 0 :: own.drop (j + 1) := by
      rw [List.getD, List.getElem?_eq_getElem hj', Option.getD_some, ← List.drop_eq_getElem_cons hj', List.take_append_drop]
    have lp := (lot_place hN M hE hB (xs := own.take j) (ys := own.drop (j + 1)) (p := own.getD j 0) (by rw [← eo]; exact c1) (by simp; omega)).2
    have e2 : B.dropLast.reverse.getD j 0 = B.getD (own.drop (j + 1)).length 0 := by
      have hlt : j < B.dropLast.reverse.length := by rw [List.length_reverse]; omega
      rw [List.getD, List.getElem?_eq_getElem hlt, Option.getD_some, List.getElem_reverse, List.getElem_dropLast]
      rw [List.getD, List.getElem?_eq_getElem (by rw [List.length_drop]; omega), Option.getD_some]
      congr 1
      rw [List.length_drop]
      omega
    rw [e2]
    exact lp
  obtain ⟨own, ho, rfl⟩ := List.mem_map.mp h1
  have k1 := low own ho
  have hb : B.dropLast.reverse ∈ bestF F N E.length := (best_mem hN).mpr ⟨lot_back hN hB, by rw [List.length_reverse]; omega⟩
  have k2 := h2 _ (List.mem_map.mpr ⟨_, hb, rfl⟩)
  rw [et]
  omega
theorem max_place {j : Nat} (hj : j + 1 < E.length) (m : Int) (h1 : m ∈ (bestF F N E.length).map fun own => (own.getD j 0 : Int)) (h2 : ∀ y ∈ (bestF F N E.length).map fun own => (own.getD j 0 : Int), y ≤ m) : m = (E.dropLast.getD j 0 : Nat) := by
  have k3 := (fr_init hN hE).2
  have hi : ∀ own ∈ bestF F N E.length, own.getD j 0 ≤ E.dropLast.getD j 0 := fun own ho => by
    obtain ⟨c1, c2⟩ := (best_mem hN).mp ho
    have hj' : j < own.length := by omega
    have eo : own = own.take j ++ own.getD j 0 :: own.drop (j + 1) := by
      rw [List.getD, List.getElem?_eq_getElem hj', Option.getD_some, ← List.drop_eq_getElem_cons hj', List.take_append_drop]
    have lp := (lot_place hN M hE hB (xs := own.take j) (ys := own.drop (j + 1)) (p := own.getD j 0) (by rw [← eo]; exact c1) (by simp; omega)).1
    rw [List.length_take, Nat.min_eq_left (by omega)] at lp
    have e2 : E.dropLast.getD j 0 = E.getD j 0 := by
      have hlt : j < E.dropLast.length := by omega
      rw [List.getD, List.getElem?_eq_getElem hlt, Option.getD_some, List.getElem_dropLast, List.getD, List.getElem?_eq_getElem (by omega), Option.getD_some]
    rw [e2]
    exact lp
  obtain ⟨own, ho, rfl⟩ := List.mem_map.mp h1
  have k1 := hi own ho
  have hb : E.dropLast ∈ bestF F N E.length := (best_mem hN).mpr ⟨lot_front hN hE, by omega⟩
  have k2 := h2 _ (List.mem_map.mpr ⟨_, hb, rfl⟩)
  omega
end
end Pd
end
section
set_option Elab.async false
set_option linter.all false
set_option maxRecDepth 100000
/-! PU1: could and sure, as the law counts them. -/
namespace Pd
open Ma L2 Mc
section
variable {F : Nat → Nat → Bool} {N : Nat} {E B : List Nat} (hN : 0 < N) (M : Mono F N) (hE : Fr F N 0 E) (hB : Bk F N B)
include hN M hE hB
theorem zip_any (k : Int) : couldB E B k = true ↔ ∃ j, j + 1 < E.length ∧ ((B.reverse.tail.getD j 0 : Nat) : Int) ≤ k ∧ k ≤ ((E.dropLast.getD j 0 : Nat) : Int) := by
  have hs := same_len hN M hE hB
  have k3 := (fr_init hN hE).2
  have l1 : B.reverse.tail.length = E.length - 1 := by rw [List.length_tail, List.length_reverse]; omega
  have l2 : E.dropLast.length = E.length - 1 := by rw [List.length_dropLast]
  unfold couldB
  rw [List.any_eq_true]
  constructor
  · rintro ⟨q, hq, hk⟩
    obtain ⟨j, hj, e⟩ := List.mem_iff_getElem.mp hq
    rw [List.length_zip] at hj
    rw [List.getElem_zip] at e
    simp only [Bool.and_eq_true, decide_eq_true_eq] at hk
    refine ⟨j, by omega, ?_⟩
    rw [List.getD, List.getElem?_eq_getElem (by omega), List.getD, List.getElem?_eq_getElem (by omega), Option.getD_some, Option.getD_some]
    rw [← e] at hk
    exact hk
  · rintro ⟨j, hj, h1, h2⟩
    rw [List.getD, List.getElem?_eq_getElem (by omega), Option.getD_some] at h1 h2
    refine ⟨(B.reverse.tail[j]'(by omega), E.dropLast[j]'(by omega)), ?_, by rw [Bool.and_eq_true]; exact ⟨decide_eq_true h1, decide_eq_true h2⟩⟩
    rw [List.mem_iff_getElem]
    exact ⟨j, by rw [List.length_zip]; omega, by rw [List.getElem_zip]⟩
theorem could_eq (k : Int) : couldB E B k = !((bestF F N E.length).filter fun own => (own.map fun e : Nat => (e : Int)).contains k).isEmpty := by
  have hs := same_len hN M hE hB
  have k3 := (fr_init hN hE).2
  have k4 := (bk_init hN hB).2
  rw [Bool.eq_iff_iff, zip_any hN M hE hB k]
  have e1 : ∀ j, j + 1 < E.length → B.reverse.tail.getD j 0 = B.getD (E.length - 2 - j) 0 := fun j hj => by
    rw [List.tail_reverse]
    have hlt : j < B.dropLast.reverse.length := by rw [List.length_reverse]; omega
    rw [List.getD, List.getElem?_eq_getElem hlt, Option.getD_some, List.getElem_reverse, List.getElem_dropLast]
    rw [List.getD, List.getElem?_eq_getElem (by omega), Option.getD_some]
    congr 1
    omega
  have e2 : ∀ j, j + 1 < E.length → E.dropLast.getD j 0 = E.getD j 0 := fun j hj => by
    have hlt : j < E.dropLast.length := by omega
    rw [List.getD, List.getElem?_eq_getElem hlt, Option.getD_some, List.getElem_dropLast, List.getD, List.getElem?_eq_getElem (by omega), Option.getD_some]
  have ex : (!((bestF F N E.length).filter fun own => (own.map fun e : Nat => (e : Int)).contains k).isEmpty) = true ↔ ∃ own, chn F 0 own N ∧ own.length + 1 = E.length ∧ ∃ x ∈ own, (x : Int) = k := by
    rw [Bool.not_eq_true', ← Bool.not_eq_true, List.isEmpty_iff, List.filter_eq_nil_iff]
    constructor
    · intro h
      simp only [Classical.not_forall] at h
      obtain ⟨own, ho, hc⟩ := h
      obtain ⟨c1, c2⟩ := (best_mem hN).mp ho
      refine ⟨own, c1, c2, ?_⟩
      have : (own.map fun e : Nat => (e : Int)).contains k = true := Classical.byContradiction hc
      rw [List.contains_iff_mem, List.mem_map] at this
      exact this
    · rintro ⟨own, c1, c2, x, hx, e⟩ h
      refine h own ((best_mem hN).mpr ⟨c1, c2⟩) ?_
      rw [List.contains_iff_mem, List.mem_map]
      exact ⟨x, hx, e⟩
  rw [ex]
  constructor
  · rintro ⟨j, hj, h1, h2⟩
    rw [e1 j hj] at h1
    rw [e2 j hj] at h2
    obtain ⟨own, c1, c2, c3⟩ := (could_iff hN M hE hB k.toNat).mp ⟨j, hj, by omega, by omega⟩
    exact ⟨own, c1, c2, k.toNat, c3, by omega⟩
  · rintro ⟨own, c1, c2, x, hx, e⟩
    obtain ⟨j, hj, h1, h2⟩ := (could_iff hN M hE hB x).mpr ⟨own, c1, c2, hx⟩
    exact ⟨j, hj, by rw [e1 j hj]; omega, by rw [e2 j hj]; omega⟩
open Classical in
theorem sure_eq (first last : Int) : (decide (¬ SureEx F N E B first last)) = ((bestF F N E.length).filter fun own => (own.filter fun x : Nat => decide (first < (x : Int)) && decide ((x : Int) ≤ last)).isEmpty).isEmpty := by
  rw [Bool.eq_iff_iff, decide_eq_true_iff]
  unfold SureEx
  rw [sure_iff hN M hE hB first last, List.isEmpty_iff, List.filter_eq_nil_iff]
  constructor
  · intro h own ho he
    obtain ⟨c1, c2⟩ := (best_mem hN).mp ho
    refine h ⟨own, c1, c2, fun x hx ⟨q1, q2⟩ => ?_⟩
    rw [List.isEmpty_iff, List.filter_eq_nil_iff] at he
    exact he x hx (by simp [q1, q2])
  · rintro h ⟨own, c1, c2, c3⟩
    refine h own ((best_mem hN).mpr ⟨c1, c2⟩) ?_
    rw [List.isEmpty_iff, List.filter_eq_nil_iff]
    intro x hx
    have := c3 x hx
    simp only [Bool.and_eq_true, decide_eq_true_eq]
    exact this
end
end Pd
end
section
set_option Elab.async false
set_option linter.all false
set_option maxRecDepth 100000
/-! PU2: piece_right. -/
namespace Pd
open Ma L2 Mc
def t_law_piece_right (sp_law_fit_parts sp_law_lists sp_law_same sp_part_fits sp_law_lots_of_changes sp_fewest_changes sp_law_heard sp_law_refused sp_could_change sp_law_take sp_sure_change : SpD) : TSD := (sSeq (sAsg (dTup (dCons (dCall len1 (dCons (dBin ixD (dVar 1) (dC (.int 1))) dNil)) (dCons (dFnN 1 sp_law_fit_parts (dCons (dVar 1) dNil)) (dCons (dFnN 1 sp_law_lists (dCons (dVar 1) dNil)) dNil)))) (gT 3 (gsCons (gN 2) (gsCons (gN 3) (gsCons (gN 4) gsNil)))))
  (sSeq (sSet .va 5 (dCall sortdD (dCons (dVar 3) dNil)))
  (sSeq (sIf (dNot (bT (dFnN 2 sp_law_same (dCons (dLc (iSeq (dVar 5)) (gN 6) yesD (dFnN 3 sp_part_fits (dCons (dVar 1) (dCons (dBin ixD (dVar 6) (dC (.int 0))) (dCons (dBin ixD (dVar 6) (dC (.int 1))) dNil)))) [6]) (dCons (dLc (iSeq (dVar 5)) (gN 6) yesD (dBin dgetD (dVar 3) (dVar 6)) [6]) dNil))))) (sRet (dC (.bl false))) sSkip)
  (sSeq (sSet .va 7 (dFnN 2 sp_law_lots_of_changes (dCons (dVar 3) (dCons (dVar 2) dNil))))
  (sSeq (sIf (bT (dBin eqD (dVar 7) (dLst dNil))) (sSeq (sSet .ow 8 (dLst (dCons (dFnN 1 sp_fewest_changes (dCons (dVar 1) dNil)) (dCons (dFnN 2 sp_law_heard (dCons (dC (.int 0)) (dCons (dVar 1) dNil))) (dCons (dFnN 2 sp_law_heard (dCons (dC (.int 1)) (dCons (dVar 4) dNil))) (dCons (dFnN 2 sp_law_refused (dCons (dC (.int 0)) (dCons (dVar 4) dNil))) (dCons (dFnN 2 sp_law_refused (dCons (dC (.int 1)) (dCons (dVar 1) dNil))) dNil)))))))
  (sFrz 8 (sRet (dFnN 2 sp_law_same (dCons (dVar 8) (dCons (dLst (dCons (dC .non) (dCons (dC .non) (dCons (dC .non) (dCons (dC (.bl true)) (dCons (dC (.bl true)) dNil)))))) dNil)))))) sSkip)
  (sSeq (sSet .va 9 (dCall minL (dCons (dLc (iSeq (dVar 7)) (gN 6) yesD (dCall len1 (dCons (dVar 6) dNil)) [6]) dNil)))
  (sSeq (sSet .va 7 (dLc (iSeq (dVar 7)) (gN 6) (bT (dBin eqD (dCall len1 (dCons (dVar 6) dNil)) (dVar 9))) (dVar 6) [6]))
  (sSeq (sSet .va 10 (dLc (iRange1 (dCons (dVar 9) dNil)) (gN 11) yesD (dLc (iSeq (dVar 7)) (gN 6) yesD (dBin ixD (dVar 6) (dVar 11)) [6]) [11]))
  (sSeq (sSet .ow 12 (dLst (dCons (dVar 9) (dCons (dCall tuple1 (dCons (dLc (iSeq (dVar 10)) (gN 6) yesD (dCall minL (dCons (dVar 6) dNil)) [6]) dNil)) (dCons (dCall tuple1 (dCons (dLc (iSeq (dVar 10)) (gN 6) yesD (dCall maxL (dCons (dVar 6) dNil)) [6]) dNil)) dNil)))))
  (sSeq (sSet .ow 8 (dLst (dCons (dFnN 1 sp_fewest_changes (dCons (dVar 4) dNil)) (dCons (dFnN 2 sp_law_heard (dCons (dC (.int 0)) (dCons (dVar 1) dNil))) (dCons (dFnN 2 sp_law_heard (dCons (dC (.int 1)) (dCons (dVar 4) dNil))) dNil)))))
  (sSeq (sFor (iRange2 (dCons (dUn negD (dC (.int 1))) (dCons (dBin addD (dVar 2) (dC (.int 2))) dNil))) (gN 13) (sSeq (sApp 8 (dFnN 2 sp_could_change (dCons (dVar 1) (dCons (dVar 13) dNil))))
  (sApp 12 (dBin neD (dLc (iSeq (dVar 7)) (gN 6) (bT (dBin (inD false) (dVar 13) (dVar 6))) (dVar 6) [6]) (dLst dNil)))))
  (sSeq (sFor (iRange1 (dCons (dC (.int 5)) dNil)) (gN 14) (sSeq (sAsg (dTup (dCons (dBin subD (dFnN 2 sp_law_take (dCons (dVar 0) (dCons (dBin addD (dVar 2) (dC (.int 2))) dNil))) (dC (.int 1))) (dCons (dBin subD (dFnN 2 sp_law_take (dCons (dVar 0) (dCons (dBin addD (dVar 2) (dC (.int 3))) dNil))) (dC (.int 1))) dNil))) (gT 2 (gsCons (gN 15) (gsCons (gN 16) gsNil))))
  (sSeq (sApp 8 (dFnN 3 sp_sure_change (dCons (dVar 4) (dCons (dVar 15) (dCons (dVar 16) dNil)))))
  (sApp 12 (dBin eqD (dLc (iSeq (dVar 7)) (gN 6) (bT (dBin eqD (dLc (iSeq (dVar 6)) (gN 13) (bT (dChain ltD leD (dVar 15) (dVar 13) (dVar 16))) (dVar 13) [13]) (dLst dNil))) (dVar 6) [6]) (dLst dNil))))))
  (sRet (dFnN 2 sp_law_same (dCons (dBin addD (dOwn 8) (dLst (dCons (dVar 4) dNil))) (dCons (dBin addD (dOwn 12) (dLst (dCons (dFnN 1 sp_law_lists (dCons (dVar 1) dNil)) dNil))) dNil))))))))))))))))
theorem okS_ints (k : Nat) {l : List Nat} (h : l.length ≤ 1000) : okS (k + 1) (intsT l) := ⟨by simpa using h, fun x hx => by
  obtain ⟨e, _, rfl⟩ := List.mem_map.mp hx
  cases k <;> trivial⟩
theorem okT_S : ∀ (k : Nat) (d : D), okT k d → okS k d
  | _, .int _, _ => by unfold okS; trivial
  | k + 1, .tup l, h => ⟨h.1, fun x hx => okT_S k x (h.2 x hx)⟩
  | k + 1, .lst l, h => ⟨h.1, fun x hx => okT_S k x (h.2 x hx)⟩
  | 0, .tup _, h => h.elim
  | 0, .lst _, h => h.elim
  | k, .non, h => by cases k <;> exact h.elim
  | k, .bl _, h => by cases k <;> exact h.elim
  | k, .dic _, h => by cases k <;> exact h.elim
  | k, .tin, h => by cases k <;> exact h.elim
theorem prs_lt {N : Nat} (h7 : N ≤ 7) : (prs N N).length < 64 := by
  have := prs_len N N
  have : N * N ≤ 7 * 7 := Nat.mul_le_mul h7 h7
  omega
def tupP (p : Nat × Nat) : D := .tup [.int (p.1 : Nat), .int (p.2 : Nat)]
section
variable {n m : Nat} {L G : List Row} (pb : PcB n m L G)
include pb
/-- the first check: all parts alike -/
theorem spans_ok (c : Nat) (N : D → Nat → Prop) (s0 s2 s4 : Sl) (rest : List Sl) (k : ∀ ps : List (Nat × Nat), ps.Perm (prs G.length G.length) → N (.lst (ps.map tupP)) c) :
    dCall sortdD (dCons (dVar 3) dNil) (s0 :: .va (pieceT L G) :: s2 :: .va (.dic (ent (fitB n m L G) (prs G.length G.length))) :: s4 :: rest) c N := by
  simp only [dCall, dCons, dNil, dVar, List.getElem?_cons_zero, List.getElem?_cons_succ, Option.some.injEq, Sl.va.injEq, exists_eq_left', sortdD]
  refine ⟨_, rfl, by unfold ent; rw [List.length_map]; exact prs_lt pb.few, fun q hq => ?_, fun ks pk => ?_⟩
  · obtain ⟨p, hp, rfl⟩ := List.mem_map.mp hq
    have := prs_mem.mp (show (p.1, p.2) ∈ prs G.length G.length from hp)
    have := pb.few
    simp only
    omega
  · unfold ent at pk
    rw [List.map_map] at pk
    obtain ⟨ps, p1, p2⟩ := perm_lift _ pk (prs G.length G.length) rfl
    have := k ps p1
    rw [← p2, List.map_map]
    exact this
theorem first_ok (ok : PcOk n m L G) (c : Nat) (N : Bool → Nat → Prop) (s0 s2 s4 s7 : Sl) (rest : List Sl) {ps : List (Nat × Nat)} (pp : ps.Perm (prs G.length G.length)) (k : N false c) :
    dNot (bT (dFnN 2 (sp_law_same 6) (dCons (dLc (iSeq (dVar 5)) (gN 6) yesD (dFnN 3 sp_part_fits (dCons (dVar 1) (dCons (dBin ixD (dVar 6) (dC (.int 0))) (dCons (dBin ixD (dVar 6) (dC (.int 1))) dNil)))) [6]) (dCons (dLc (iSeq (dVar 5)) (gN 6) yesD (dBin dgetD (dVar 3) (dVar 6)) [6]) dNil))))
      (s0 :: .va (pieceT L G) :: s2 :: .va (.dic (ent (fitB n m L G) (prs G.length G.length))) :: s4 :: .va (.lst (ps.map tupP)) :: .no :: rest) c N := by
  have hl : ps.length ≤ 1000 := by rw [pp.length_eq]; have := prs_lt (N := G.length) pb.few; omega
  have a0 : ∀ a b : D, atI [a, b] 0 = some a := fun a b => by simp [atI, ixN]
  have hm : ∀ q ∈ ps, q.1 < q.2 ∧ q.2 ≤ G.length ∧ (q.1, q.2) ∈ prs G.length G.length := fun q hq => by
    have h := (pp.mem_iff).mp hq
    have := prs_mem.mp (show (q.1, q.2) ∈ prs G.length G.length from h)
    exact ⟨this.2.1, this.2.2, h⟩
  simp only [dNot, bT, dFnN, dCons, dNil, dLc, iSeq, dVar, List.getElem?_cons_zero, List.getElem?_cons_succ, Option.some.injEq, Sl.va.injEq, exists_eq_left', forgetR, List.set]
  refine ⟨by rw [List.length_map]; omega, lc_map tupP (fun q => D.bl (fitB n m L G q.1 q.2)) _ _ _ (fun q hq Q' qq => ?_) ?_⟩
  · obtain ⟨h1, h2, _⟩ := hm q hq
    simp [tupP, a0, at1]
    exact ⟨n, m, L, G, q.1, q.2, _, rfl, .inl rfl, ok, h1, h2, qq⟩
  · simp only [List.nil_append]
    refine ⟨by rw [List.length_map]; omega, lc_map tupP (fun q => D.bl (fitB n m L G q.1 q.2)) _ _ _ (fun q hq Q' qq => ?_) ?_⟩
    · obtain ⟨h1, h2, h3⟩ := hm q hq
      simp [tupP]
      refine ⟨_, _, ⟨rfl, rfl⟩, ?_⟩
      rw [ent_some h3]
      cases hF : fitB n m L G q.1 q.2 with
      | false => rw [hF] at qq; exact .inl ⟨rfl, qq⟩
      | true => rw [hF] at qq; exact .inr ⟨rfl, qq⟩
    · simp only [List.nil_append]
      refine ⟨by trivial, _, rfl, ⟨by rw [List.length_map]; exact hl, fun x hx => ?_⟩, true, rfl, k⟩
      obtain ⟨q, _, rfl⟩ := List.mem_map.mp hx
      trivial
end
end Pd
end
section
set_option Elab.async false
set_option linter.all false
set_option maxRecDepth 100000
/-! PU3: piece_right: the two loops. -/
namespace Pd
open Ma L2 Mc
section
variable {n m : Nat} {L G : List Row} (ok : PcOk n m L G) (al : AllFit n m L G) {E B : List Nat} (hE : Fr (fitB n m L G) G.length 0 E) (hB : Bk (fitB n m L G) G.length B)
include ok al hE hB
theorem best_few {own : List Nat} (h : own ∈ bestF (fitB n m L G) G.length E.length) : own.length ≤ 1000 := by
  have := (best_mem ok.pos).mp h
  have := fr_len hE
  have := ok.few
  omega
theorem could_loop (few : (bestF (fitB n m L G) G.length E.length).length ≤ 1000) (N : Rho → Nat → Prop) (R : D → Nat → Prop) (c : Nat) (s0 s2 s3 s4 s5 s9 s10 s11 s14 s15 s16 : Sl) : ∀ (ks : List Int) (l : List D) (s13 : Sl), l.length + ks.length ≤ 1000 → (∀ x ∈ l, okS 5 x) →
    (∀ l' : List D, (∀ x ∈ l', okS 5 x) → l'.length = l.length + ks.length → ∀ s13, N [s0, .va (pieceT L G), s2, s3, s4, s5, .no, .va (.lst ((bestF (fitB n m L G) G.length E.length).map intsT)), .ow l', s9, s10, s11, .ow l', s13, s14, s15, s16] c) →
    forT (gN 13) (sSeq (sApp 8 (dFnN 2 sp_could_change (dCons (dVar 1) (dCons (dVar 13) dNil))))
      (sApp 12 (dBin neD (dLc (iSeq (dVar 7)) (gN 6) (bT (dBin (inD false) (dVar 13) (dVar 6))) (dVar 6) [6]) (dLst dNil)))) (ks.map D.int)
      [s0, .va (pieceT L G), s2, s3, s4, s5, .no, .va (.lst ((bestF (fitB n m L G) G.length E.length).map intsT)), .ow l, s9, s10, s11, .ow l, s13, s14, s15, s16] c N R
  | [], l, s13, _, hl, h => h l hl rfl s13
  | k :: ks, l, s13, hlen, hl, h => by
    simp only [List.length_cons] at hlen h
    have ih := could_loop few N R c s0 s2 s3 s4 s5 s9 s10 s11 s14 s15 s16 ks (l ++ [.bl (couldB E B k)]) (.va (.int k)) (by simp; omega) (fun x hx => by
      rcases List.mem_append.mp hx with hx | hx
      · exact hl x hx
      · rw [List.mem_singleton.mp hx]; trivial) (fun l' h1 h2 s13 => h l' h1 (by simp at h2; omega) s13)
    have ce := could_eq ok.pos (fit_mono ok) hE hB k
    simp only [List.map_cons, forT, gN, sSeq, sApp, dFnN, dCons, dNil, dVar, List.set, List.getElem?_cons_zero, List.getElem?_cons_succ, Option.some.injEq, Sl.va.injEq, Sl.ow.injEq, exists_eq_left', List.length]
    refine ⟨by trivial, n, m, L, G, _, k, rfl, .inl rfl, ok, al, fun E' B' hE' hB' => ?_⟩
    have e1 := fr_one hE hE'
    have e2 := bk_one hB hB'
    subst e1 e2
    simp only [dBin, dLc, iSeq, dVar, List.set, List.getElem?_cons_zero, List.getElem?_cons_succ, Option.some.injEq, Sl.va.injEq, Sl.ow.injEq, exists_eq_left', forgetR]
    refine ⟨by omega, by rw [List.length_map]; omega, lc_filt intsT intsT (fun own => (own.map fun e : Nat => (e : Int)).contains k) _ _ _ (fun _ _ _ _ _ => trivial) (fun own ho Q' Nx q1 q2 => ?_) ?_⟩
    · simp only [gN, bT, dBin, dVar, inD, List.set, List.getElem?_cons_zero, List.getElem?_cons_succ, Option.some.injEq, Sl.va.injEq, exists_eq_left']
      refine ⟨k, own.map fun e : Nat => (e : Int), rfl, .inr (by simp [intsT]), _, rfl, ?_⟩
      simp only [Bool.false_eq_true, if_false]
      cases hc : (own.map fun e : Nat => (e : Int)).contains k with
      | true => simpa using q1 hc
      | false => simpa using q2 hc
    · simp only [List.nil_append, dLst, dNil]
      rw [neD_nil (fun x hx => by
        obtain ⟨j, _, rfl⟩ := List.mem_map.mp hx
        exact fine_tup fun y hy => by
          obtain ⟨z, _, rfl⟩ := List.mem_map.mp hy
          exact fine_int _ _), List.isEmpty_map, ← ce]
      exact ⟨by decide, by omega, ih⟩
open Classical in
theorem sure_loop (few : (bestF (fitB n m L G) G.length E.length).length ≤ 1000) (N : Rho → Nat → Prop) (R : D → Nat → Prop) (s3 s5 s9 s10 s11 s13 : Sl) : ∀ (laps : List D) (l : List D) (c : Nat) (s14 s15 s16 : Sl), c + 2 * laps.length ≤ 90000 → l.length + laps.length ≤ 1000 → (∀ x ∈ l, okS 5 x) →
    (∀ (l' : List D) (c' : Nat), (∀ x ∈ l', okS 5 x) → l'.length = l.length + laps.length → ∀ s14 s15 s16, N [.va .tin, .va (pieceT L G), .va (.int (G.length : Nat)), s3, .va (pieceS L G), s5, .no, .va (.lst ((bestF (fitB n m L G) G.length E.length).map intsT)), .ow l', s9, s10, s11, .ow l', s13, s14, s15, s16] c') →
    forT (gN 14) (sSeq (sAsg (dTup (dCons (dBin subD (dFnN 2 sp_law_take (dCons (dVar 0) (dCons (dBin addD (dVar 2) (dC (.int 2))) dNil))) (dC (.int 1))) (dCons (dBin subD (dFnN 2 sp_law_take (dCons (dVar 0) (dCons (dBin addD (dVar 2) (dC (.int 3))) dNil))) (dC (.int 1))) dNil))) (gT 2 (gsCons (gN 15) (gsCons (gN 16) gsNil))))
      (sSeq (sApp 8 (dFnN 3 sp_sure_change (dCons (dVar 4) (dCons (dVar 15) (dCons (dVar 16) dNil)))))
      (sApp 12 (dBin eqD (dLc (iSeq (dVar 7)) (gN 6) (bT (dBin eqD (dLc (iSeq (dVar 6)) (gN 13) (bT (dChain ltD leD (dVar 15) (dVar 13) (dVar 16))) (dVar 13) [13]) (dLst dNil))) (dVar 6) [6]) (dLst dNil))))) laps
      [.va .tin, .va (pieceT L G), .va (.int (G.length : Nat)), s3, .va (pieceS L G), s5, .no, .va (.lst ((bestF (fitB n m L G) G.length E.length).map intsT)), .ow l, s9, s10, s11, .ow l, s13, s14, s15, s16] c N R
  | [], l, c, s14, s15, s16, _, _, hl, h => h l c hl rfl s14 s15 s16
  | x0 :: laps, l, c, s14, s15, s16, hc, hlen, hl, h => by
    simp only [List.length_cons] at hlen h hc
    have fw := ok.few
    have ih := fun (b : Bool) (c' : Nat) (hc' : c' ≤ c + 2) s15 s16 => sure_loop few N R s3 s5 s9 s10 s11 s13 laps (l ++ [.bl b]) c' (.va x0) s15 s16 (by omega) (by simp; omega) (fun x hx => by
      rcases List.mem_append.mp hx with hx | hx
      · exact hl x hx
      · rw [List.mem_singleton.mp hx]; trivial) (fun l' c'' h1 h2 s14 s15 s16 => h l' c'' h1 (by simp at h2; omega) s14 s15 s16)
    simp only [forT, gN, sSeq, sAsg, dTup, dFnN, dCons, dNil, dBin, dC, dVar, addD, subD, gT, gsCons, gsNil, List.set, List.getElem?_cons_zero, List.getElem?_cons_succ, Option.some.injEq, Sl.va.injEq, exists_eq_left', List.length]
    refine ⟨by trivial, G.length + 2, by simp, by omega, by omega, by omega, fun k1 hk1 => ⟨by trivial, G.length + 3, by simp, by omega, by omega, by omega, fun k2 hk2 => ⟨by trivial, ?_⟩⟩⟩
    generalize (k1 : Int) - 1 = first
    generalize (k2 : Int) - 1 = last
    simp only [sApp, dFnN, dCons, dNil, dVar, List.set, List.getElem?_cons_zero, List.getElem?_cons_succ, Option.some.injEq, Sl.va.injEq, Sl.ow.injEq, exists_eq_left', List.length]
    have se := sure_eq ok.pos (fit_mono ok) hE hB first last
    -- what the law counts
    have due : ∀ (g : List D) (b : Bool), b = ((bestF (fitB n m L G) G.length E.length).filter fun own => (own.filter fun x : Nat => decide (first < (x : Int)) && decide ((x : Int) ≤ last)).isEmpty).isEmpty → g = l ++ [.bl b] →
        dBin eqD (dLc (iSeq (dVar 7)) (gN 6) (bT (dBin eqD (dLc (iSeq (dVar 6)) (gN 13) (bT (dChain ltD leD (dVar 15) (dVar 13) (dVar 16))) (dVar 13) [13]) (dLst dNil))) (dVar 6) [6]) (dLst dNil)
          [.va .tin, .va (pieceT L G), .va (.int (G.length : Nat)), s3, .va (pieceS L G), s5, .no, .va (.lst ((bestF (fitB n m L G) G.length E.length).map intsT)), .ow g, s9, s10, s11, .ow l, s13, .va x0, .va (.int first), .va (.int last)] (c + 1 + 1)
          (fun d c1 => l.length < 1000000 ∧ forT (gN 14) (sSeq (sAsg (dTup (dCons (dBin subD (dFnN 2 sp_law_take (dCons (dVar 0) (dCons (dBin addD (dVar 2) (dC (.int 2))) dNil))) (dC (.int 1))) (dCons (dBin subD (dFnN 2 sp_law_take (dCons (dVar 0) (dCons (dBin addD (dVar 2) (dC (.int 3))) dNil))) (dC (.int 1))) dNil))) (gT 2 (gsCons (gN 15) (gsCons (gN 16) gsNil))))
      (sSeq (sApp 8 (dFnN 3 sp_sure_change (dCons (dVar 4) (dCons (dVar 15) (dCons (dVar 16) dNil)))))
      (sApp 12 (dBin eqD (dLc (iSeq (dVar 7)) (gN 6) (bT (dBin eqD (dLc (iSeq (dVar 6)) (gN 13) (bT (dChain ltD leD (dVar 15) (dVar 13) (dVar 16))) (dVar 13) [13]) (dLst dNil))) (dVar 6) [6]) (dLst dNil))))) laps
            [.va .tin, .va (pieceT L G), .va (.int (G.length : Nat)), s3, .va (pieceS L G), s5, .no, .va (.lst ((bestF (fitB n m L G) G.length E.length).map intsT)), .ow g, s9, s10, s11, .ow (l ++ [d]), s13, .va x0, .va (.int first), .va (.int last)] c1 N R) := fun g b hb hg => by
      subst hg
      simp only [dBin, dLc, iSeq, dVar, List.set, List.getElem?_cons_zero, List.getElem?_cons_succ, Option.some.injEq, Sl.va.injEq, exists_eq_left', forgetR]
      refine ⟨by rw [List.length_map]; omega, lc_filt intsT intsT (fun own => (own.filter fun x : Nat => decide (first < (x : Int)) && decide ((x : Int) ≤ last)).isEmpty) _ _ _ (fun _ _ _ _ _ => trivial) (fun own ho Q' Nx q1 q2 => ?_) ?_⟩
      · have of := best_few ok al hE hB ho
        simp only [gN, bT, dBin, dLc, iSeq, dVar, intsT, List.set, List.getElem?_cons_zero, List.getElem?_cons_succ, Option.some.injEq, Sl.va.injEq, exists_eq_left', forgetR]
        refine ⟨by rw [List.length_map]; omega, lc_filt (fun e : Nat => D.int ((e : Nat) : Int)) (fun e => D.int ((e : Nat) : Int)) (fun x : Nat => decide (first < (x : Int)) && decide ((x : Int) ≤ last)) _ _ _ (fun _ _ _ _ _ => trivial) (fun x hx Q2 N2 r1 r2 => ?_) ?_⟩
        · by_cases e1 : first < (x : Int)
          · by_cases e2 : (x : Int) ≤ last
            · simpa [e1, e2] using r1 (by simp [e1, e2])
            · simpa [e1, e2] using r2 (by simp [e2])
          · simpa [e1] using r2 (by simp [e1])
        · simp only [List.nil_append, dLst, dNil]
          rw [eqD_nil (fun y hy => by
            obtain ⟨z, _, rfl⟩ := List.mem_map.mp hy
            exact fine_int _ _), List.isEmpty_map]
          refine ⟨by decide, _, rfl, ?_⟩
          cases hz : (own.filter fun x : Nat => decide (first < (x : Int)) && decide ((x : Int) ≤ last)).isEmpty with
          | true => simpa [intsT] using q1 hz
          | false => simpa using q2 hz
      · simp only [List.nil_append, dLst, dNil]
        rw [eqD_nil (fun x hx => by
          obtain ⟨j, _, rfl⟩ := List.mem_map.mp hx
          exact fine_tup fun y hy => by
            obtain ⟨z, _, rfl⟩ := List.mem_map.mp hy
            exact fine_int _ _), List.isEmpty_map, ← hb]
        exact ⟨by decide, by omega, ih b (c + 1 + 1) (by omega) _ _⟩
    refine ⟨by trivial, by trivial, n, m, L, G, _, first, last, rfl, .inr rfl, ok, al, fun E' B' hE' hB' => ?_⟩
    have e1 := fr_one hE hE'
    have e2 := bk_one hB hB'
    subst e1 e2
    refine ⟨fun hy => ⟨by omega, ?_⟩, fun hn => ⟨by omega, ?_⟩⟩
    · refine due _ false ?_ rfl
      rw [← se]
      exact (decide_eq_false (fun z => z hy)).symm
    · refine due _ true ?_ rfl
      rw [← se]
      exact (decide_eq_true hn).symm
end
end Pd
end
section
set_option Elab.async false
set_option linter.all false
set_option maxRecDepth 100000
/-! PU4: piece_right. -/
namespace Pd
open Ma L2 Mc
theorem lots_few {F : Nat → Nat → Bool} {N : Nat} (h : N ≤ 7) : (lotsF F N).length ≤ 64 := by
  unfold lotsF
  refine Nat.le_trans (List.length_filter_le _ _) ?_
  rw [subsF_len, List.length_range']
  have : 2 ^ (N - 1) ≤ 2 ^ 6 := Nat.pow_le_pow_right (by decide) (by omega)
  simp
  omega
theorem fine_intsT (n : Nat) (l : List Nat) : (intsT l).fine (n + 1) = true := fine_tup fun y hy => by
  obtain ⟨z, _, rfl⟩ := List.mem_map.mp hy
  exact fine_int _ _
theorem okS_list {k : Nat} {l : List D} (h : l.length ≤ 1000) (h2 : ∀ x ∈ l, okS k x) : okS (k + 1) (.lst l) := ⟨h, h2⟩
section
variable {n m : Nat} {L G : List Row} (pb : PcB n m L G)
include pb
/-- no lots -/
theorem none_ok (ok : PcOk n m L G) (hno : ¬ AllFit n m L G) (c : Nat) (Q : D → Nat → Prop) (h : Q (.bl true) c) (s0 s2 s3 s5 s6 s7 : Sl) (rest : List Sl) (s8 : Sl) (N : Rho → Nat → Prop) :
    (sSeq (sSet .ow 8 (dLst (dCons (dFnN 1 sp_fewest_changes (dCons (dVar 1) dNil)) (dCons (dFnN 2 sp_law_heard (dCons (dC (.int 0)) (dCons (dVar 1) dNil))) (dCons (dFnN 2 sp_law_heard (dCons (dC (.int 1)) (dCons (dVar 4) dNil))) (dCons (dFnN 2 sp_law_refused (dCons (dC (.int 0)) (dCons (dVar 4) dNil))) (dCons (dFnN 2 sp_law_refused (dCons (dC (.int 1)) (dCons (dVar 1) dNil))) dNil)))))))
      (sFrz 8 (sRet (dFnN 2 (sp_law_same 6) (dCons (dVar 8) (dCons (dLst (dCons (dC .non) (dCons (dC .non) (dCons (dC .non) (dCons (dC (.bl true)) (dCons (dC (.bl true)) dNil)))))) dNil))))))
      (s0 :: .va (pieceT L G) :: s2 :: s3 :: .va (pieceS L G) :: s5 :: s6 :: s7 :: s8 :: rest) c N Q := by
  simp only [sSeq, sSet, dLst, dFnN, dCons, dNil, dC, dVar, Kd.sl, List.set, List.getElem?_cons_zero, List.getElem?_cons_succ, Option.some.injEq, Sl.va.injEq, exists_eq_left', List.length]
  refine ⟨by trivial, n, m, L, G, _, rfl, .inl rfl, ok, fun E hE => absurd (fun a ha => ?_) hno, fun a ha hf => ?_⟩
  · exact lot_fit (fit_mono ok) (lot_front ok.pos hE) (Nat.zero_le _) ha
  · refine ⟨by trivial, n, m, L, G, _, 0, rfl, .inl rfl, ok, .inl rfl, fun z => absurd z hno, fun _ => ⟨by trivial, n, m, L, G, _, 1, rfl, .inr rfl, ok, .inr rfl, fun z => absurd z hno, fun _ => ⟨by trivial, n, m, L, G, _, 0, rfl, .inr rfl, ok, .inl rfl, hno, by trivial, n, m, L, G, _, 1, rfl, .inl rfl, ok, .inr rfl, hno, ?_⟩⟩⟩
    refine ⟨by decide, ?_⟩
    simp only [sFrz, frz, sRet, dFnN, dLst, dCons, dNil, dC, dVar, List.set, List.getElem?_cons_zero, List.getElem?_cons_succ, Option.some.injEq, Sl.va.injEq, exists_eq_left', List.length]
    refine ⟨by decide, by trivial, _, rfl, ⟨by decide, fun x hx => ?_⟩, h⟩
    simp at hx
    rcases hx with rfl | rfl <;> trivial
end
end Pd
end
section
set_option Elab.async false
set_option linter.all false
set_option maxRecDepth 100000
/-! PU5: piece_right. -/
namespace Pd
open Ma L2 Mc
section
variable {n m : Nat} {L G : List Row} (pb : PcB n m L G) (ok : PcOk n m L G) (al : AllFit n m L G) {E B : List Nat} (hE : Fr (fitB n m L G) G.length 0 E) (hB : Bk (fitB n m L G) G.length B)
include pb ok al hE hB
/-- the fewest changes -/
theorem few_ok (c : Nat) (N : D → Nat → Prop) (s0 s1 s2 s3 s4 s5 : Sl) (rest : List Sl) (k : N (.int ((E.length : Int) - 1)) c) :
    dCall minL (dCons (dLc (iSeq (dVar 7)) (gN 6) yesD (dCall len1 (dCons (dVar 6) dNil)) [6]) dNil) (s0 :: s1 :: s2 :: s3 :: s4 :: s5 :: .no :: .va (.lst ((lotsF (fitB n m L G) G.length).map intsT)) :: rest) c N := by
  have lf := lots_few (F := fitB n m L G) pb.few
  simp only [dCall, dCons, dNil, dLc, iSeq, dVar, List.getElem?_cons_zero, List.getElem?_cons_succ, Option.some.injEq, Sl.va.injEq, exists_eq_left', forgetR, List.set]
  refine ⟨by rw [List.length_map]; omega, lc_map intsT (fun own => D.int ((own.length : Nat) : Int)) _ _ _ (fun own ho Q' q => by simpa [intsT] using q) ?_⟩
  simp only [List.nil_append]
  refine ⟨(lotsF (fitB n m L G) G.length).map fun own => (own.length : Int), by rw [List.map_map]; rfl, ?_, fun mm h1 h2 => ?_⟩
  · rw [List.length_map]
    exact List.length_pos_of_mem ((lots_mem ok.pos).mpr (lot_front ok.pos hE))
  · rw [min_len ok.pos (fit_mono ok) hE mm h1 h2]; exact k
/-- the lots of fewest changes -/
theorem best_ok (c : Nat) (N : D → Nat → Prop) (s0 s1 s2 s3 s4 s5 s8 : Sl) (rest : List Sl) (k : N (.lst ((bestF (fitB n m L G) G.length E.length).map intsT)) c) :
    dLc (iSeq (dVar 7)) (gN 6) (bT (dBin eqD (dCall len1 (dCons (dVar 6) dNil)) (dVar 9))) (dVar 6) [6] (s0 :: s1 :: s2 :: s3 :: s4 :: s5 :: .no :: .va (.lst ((lotsF (fitB n m L G) G.length).map intsT)) :: s8 :: .va (.int ((E.length : Int) - 1)) :: rest) c N := by
  have lf := lots_few (F := fitB n m L G) pb.few
  have ne := (fr_init ok.pos hE).2
  simp only [dLc, iSeq, dVar, List.getElem?_cons_zero, List.getElem?_cons_succ, Option.some.injEq, Sl.va.injEq, exists_eq_left', forgetR, List.set]
  refine ⟨by rw [List.length_map]; omega, lc_filt intsT intsT (fun own => decide (own.length + 1 = E.length)) _ _ _ (fun _ _ _ _ _ => trivial) (fun own ho Q' Nx q1 q2 => ?_) (by simpa [bestF] using k)⟩
  by_cases h : own.length + 1 = E.length
  · have e : (own.length : Int) = (E.length : Int) - 1 := by omega
    simpa [intsT, e] using q1 (by simpa using h)
  · have e : ¬ (own.length : Int) = (E.length : Int) - 1 := by omega
    simpa [intsT, e] using q2 (by simpa using h)
def placesD (best : List (List Nat)) (K : Nat) : D := .lst ((List.range K).map fun j => .lst (best.map fun own => D.int ((own.getD j 0 : Nat) : Int)))
/-- the places -/
theorem places_ok (c : Nat) (N : D → Nat → Prop) (s0 s1 s2 s3 s4 s5 s8 s10 : Sl) (rest : List Sl) (k : N (placesD (bestF (fitB n m L G) G.length E.length) (E.length - 1)) c) :
    dLc (iRange1 (dCons (dVar 9) dNil)) (gN 11) yesD (dLc (iSeq (dVar 7)) (gN 6) yesD (dBin ixD (dVar 6) (dVar 11)) [6]) [11] (s0 :: s1 :: s2 :: s3 :: s4 :: s5 :: .no :: .va (.lst ((bestF (fitB n m L G) G.length E.length).map intsT)) :: s8 :: .va (.int ((E.length : Int) - 1)) :: s10 :: .no :: rest) c N := by
  have lf := lots_few (F := fitB n m L G) pb.few
  have lb : (bestF (fitB n m L G) G.length E.length).length ≤ 64 := Nat.le_trans (List.length_filter_le _ _) lf
  have ne := (fr_init ok.pos hE).2
  have le := fr_len hE
  have fw := ok.few
  simp only [dLc, iRange1, dCons, dNil, dVar, List.getElem?_cons_zero, List.getElem?_cons_succ, Option.some.injEq, Sl.va.injEq, exists_eq_left', forgetR, List.set]
  rw [show (E.length : Int) - 1 = ((E.length - 1 : Nat) : Int) by omega, ivs_nat]
  refine ⟨by omega, by omega, by simp; omega, lc_map _ (fun j => D.lst ((bestF (fitB n m L G) G.length E.length).map fun own => D.int ((own.getD j 0 : Nat) : Int))) _ _ _ (fun j hj Q' q => ?_) (by simpa [placesD] using k)⟩
  have hj' := List.mem_range.mp hj
  simp only [gN, dLc, iSeq, dVar, List.getElem?_cons_zero, List.getElem?_cons_succ, Option.some.injEq, Sl.va.injEq, exists_eq_left', forgetR, List.set]
  refine ⟨by rw [List.length_map]; omega, lc_map intsT (fun own => D.int ((own.getD j 0 : Nat) : Int)) _ _ _ (fun own ho Q2 q2 => ?_) (by simpa using q)⟩
  have hl := ((best_mem ok.pos).mp ho).2
  simp only [gN, dBin, dVar, List.getElem?_cons_zero, List.getElem?_cons_succ, Option.some.injEq, Sl.va.injEq, exists_eq_left', List.set, intsT, ixD]
  refine ⟨_, L2.atI_nat (by rw [List.getElem?_map, List.getElem?_eq_getElem (show j < own.length by omega)]; rfl), ?_⟩
  rw [List.getD, List.getElem?_eq_getElem (show j < own.length by omega)] at q2
  exact q2
theorem ints_of {l : List Nat} {K : Nat} (h : l.length = K) : intsT l = .tup ((List.range K).map fun j => D.int ((l.getD j 0 : Nat) : Int)) := by
  unfold intsT
  congr 1
  subst h
  apply List.ext_getElem
  · simp
  · intro i h1 h2
    simp only [List.length_map] at h1
    simp [List.getD, List.getElem?_eq_getElem h1]
theorem best_pos : 0 < (bestF (fitB n m L G) G.length E.length).length := by
  have ne := (fr_init ok.pos hE).2
  exact List.length_pos_of_mem ((best_mem ok.pos).mpr ⟨lot_front ok.pos hE, by omega⟩)
theorem mins_ok (c : Nat) (N : D → Nat → Prop) (s0 s1 s2 s3 s4 s5 s7 s8 s9 : Sl) (rest : List Sl) (k : N (intsT B.reverse.tail) c) :
    dCall tuple1 (dCons (dLc (iSeq (dVar 10)) (gN 6) yesD (dCall minL (dCons (dVar 6) dNil)) [6]) dNil) (s0 :: s1 :: s2 :: s3 :: s4 :: s5 :: .no :: s7 :: s8 :: s9 :: .va (placesD (bestF (fitB n m L G) G.length E.length) (E.length - 1)) :: rest) c N := by
  have hs := same_len ok.pos (fit_mono ok) hE hB
  have ne := (fr_init ok.pos hE).2
  have le := fr_len hE
  have fw := ok.few
  have hl : B.reverse.tail.length = E.length - 1 := by rw [List.length_tail, List.length_reverse]; omega
  simp only [dCall, dCons, dNil, dLc, iSeq, dVar, placesD, List.getElem?_cons_zero, List.getElem?_cons_succ, Option.some.injEq, Sl.va.injEq, exists_eq_left', forgetR, List.set]
  refine ⟨by rw [List.length_map, List.length_range]; omega, lc_map _ (fun j => D.int ((B.reverse.tail.getD j 0 : Nat) : Int)) _ _ _ (fun j hj Q' q => ?_) ?_⟩
  · have hj' := List.mem_range.mp hj
    simp only [gN, dCall, dCons, dNil, dVar, List.getElem?_cons_zero, List.getElem?_cons_succ, Option.some.injEq, Sl.va.injEq, exists_eq_left', List.set]
    refine ⟨(bestF (fitB n m L G) G.length E.length).map fun own => ((own.getD j 0 : Nat) : Int), by rw [List.map_map]; rfl, by rw [List.length_map]; exact best_pos pb ok al hE hB, fun mm h1 h2 => ?_⟩
    rw [min_place ok.pos (fit_mono ok) hE hB (by omega) mm h1 h2]
    exact q
  · simp only [List.nil_append, tuple1]
    rw [← ints_of pb ok al hE hB hl]
    exact k
theorem maxs_ok (c : Nat) (N : D → Nat → Prop) (s0 s1 s2 s3 s4 s5 s7 s8 s9 : Sl) (rest : List Sl) (k : N (intsT E.dropLast) c) :
    dCall tuple1 (dCons (dLc (iSeq (dVar 10)) (gN 6) yesD (dCall maxL (dCons (dVar 6) dNil)) [6]) dNil) (s0 :: s1 :: s2 :: s3 :: s4 :: s5 :: .no :: s7 :: s8 :: s9 :: .va (placesD (bestF (fitB n m L G) G.length E.length) (E.length - 1)) :: rest) c N := by
  have ne := (fr_init ok.pos hE).2
  have le := fr_len hE
  have fw := ok.few
  have hl : E.dropLast.length = E.length - 1 := by rw [List.length_dropLast]
  simp only [dCall, dCons, dNil, dLc, iSeq, dVar, placesD, List.getElem?_cons_zero, List.getElem?_cons_succ, Option.some.injEq, Sl.va.injEq, exists_eq_left', forgetR, List.set]
  refine ⟨by rw [List.length_map, List.length_range]; omega, lc_map _ (fun j => D.int ((E.dropLast.getD j 0 : Nat) : Int)) _ _ _ (fun j hj Q' q => ?_) ?_⟩
  · have hj' := List.mem_range.mp hj
    simp only [gN, dCall, dCons, dNil, dVar, List.getElem?_cons_zero, List.getElem?_cons_succ, Option.some.injEq, Sl.va.injEq, exists_eq_left', List.set]
    refine ⟨(bestF (fitB n m L G) G.length E.length).map fun own => ((own.getD j 0 : Nat) : Int), by rw [List.map_map]; rfl, by rw [List.length_map]; exact best_pos pb ok al hE hB, fun mm h1 h2 => ?_⟩
    rw [max_place ok.pos (fit_mono ok) hE hB (by omega) mm h1 h2]
    exact q
  · simp only [List.nil_append, tuple1]
    rw [← ints_of pb ok al hE hB hl]
    exact k
end
end Pd
end
section
set_option Elab.async false
set_option linter.all false
set_option maxRecDepth 100000
/-! PU6: piece_right, joined. -/
namespace Pd
open Ma L2 Mc
theorem okS_pieceS {L G : List Row} (h1 : Few L) (h2 : Few G) : okS 5 (pieceS L G) := okT_S 5 _ (okT_pieceS 1 h1 h2)
open Classical in
theorem hs_law_piece_right (ds : List D) (c : Nat) (Q : D → Nat → Prop) (h : sp_law_piece_right ds c Q) : t_law_piece_right sp_law_fit_parts (sp_law_lists 6) (sp_law_same 6) sp_part_fits sp_law_lots_of_changes sp_fewest_changes sp_law_heard sp_law_refused sp_could_change sp_law_take sp_sure_change
    (startR ["_law_tin", "_law_piece_so", "_law_many_so", "_law_fits_so", "_law_soft_so", "_law_spans_so", "_law_own", "_law_lots_so", "_law_got", "_law_fewest_so", "_law_places_so", "_law_j", "_law_due", "_law_k", "_law_lap", "_law_first_so", "_law_last_so"] ds) c (fun _ c' => Q .non c') Q := by
  obtain ⟨n, m, L, G, rfl, pb, hc, h⟩ := h
  obtain ⟨ok, lw⟩ := pc_of pb
  have f7 := pb.few
  have e0 : ∀ ρ N R, t_law_piece_right sp_law_fit_parts (sp_law_lists 6) (sp_law_same 6) sp_part_fits sp_law_lots_of_changes sp_fewest_changes sp_law_heard sp_law_refused sp_could_change sp_law_take sp_sure_change ρ c N R = t_law_piece_right sp_law_fit_parts (sp_law_lists 6) (sp_law_same 6) sp_part_fits sp_law_lots_of_changes sp_fewest_changes sp_law_heard sp_law_refused sp_could_change sp_law_take sp_sure_change ρ c N R := fun _ _ _ => rfl
  unfold t_law_piece_right
  simp only [startR, sSeq, sAsg, dTup, dCall, dFnN, dCons, dNil, dBin, dC, dVar, List.map, List.length, List.replicate, List.append, HAppend.hAppend, Append.append, List.getElem?_cons_zero, List.getElem?_cons_succ, Option.some.injEq, Sl.va.injEq, exists_eq_left']
  simp only [pieceT, ixD]
  refine ⟨_, at1 _ _, ?_⟩
  simp only [rowsT, len1, List.length_map]
  refine ⟨by trivial, n, m, L, G, rfl, ok, lw, by trivial, pieceT L G, rfl, okT_pieceT 2 ok.fewL ok.fewG, by decide, ?_⟩
  rw [lisN_pieceT 2]
  simp only [gT, gsCons, gsNil, gN, List.set, List.length]
  refine ⟨by trivial, ?_⟩
  simp only [sSet, Kd.sl]
  refine spans_ok pb c _ (.va .tin) (.va (.int (G.length : Nat))) (.va (pieceS L G)) [.no, .no, .no, .no, .no, .no, .no, .no, .no, .no, .no, .no] fun ps pp => ?_
  simp only [sIf, List.set]
  refine first_ok pb ok c _ (.va .tin) (.va (.int (G.length : Nat))) (.va (pieceS L G)) .no [.no, .no, .no, .no, .no, .no, .no, .no, .no, .no] pp ?_
  simp only [Bool.false_eq_true, if_false, sSkip, dFnN, dCons, dNil, dVar, List.set, List.getElem?_cons_zero, List.getElem?_cons_succ, Option.some.injEq, Sl.va.injEq, exists_eq_left', List.length]
  refine ⟨by trivial, fitB n m L G, G.length, rfl, ok.pos, by omega, ?_⟩
  simp only [bT, dBin, dVar, dLst, dNil, List.getElem?_cons_zero, List.getElem?_cons_succ, Option.some.injEq, Sl.va.injEq, exists_eq_left']
  rw [eqD_nil (fun x hx => by
    obtain ⟨j, _, rfl⟩ := List.mem_map.mp hx
    exact fine_intsT _ _), List.isEmpty_map]
  refine ⟨by decide, _, rfl, ?_⟩
  by_cases al : AllFit n m L G
  · obtain ⟨E, hE⟩ := fr_ex (F := fitB n m L G) (N := G.length) al (G.length + 1) 0 (by omega) (Nat.zero_le _)
    obtain ⟨B, hB⟩ := bk_ex (F := fitB n m L G) (N := G.length) al (G.length + 1) G.length (by omega) (Nat.le_refl _)
    have hne : (lotsF (fitB n m L G) G.length).isEmpty = false := by
      have := (lots_mem ok.pos).mpr (lot_front ok.pos hE)
      cases hz : lotsF (fitB n m L G) G.length with
      | nil => rw [hz] at this; cases this
      | cons a b => rfl
    rw [hne]
    simp only [Bool.false_eq_true, if_false, sSkip]
    have lb : (bestF (fitB n m L G) G.length E.length).length ≤ 1000 := Nat.le_trans (List.length_filter_le _ _) (Nat.le_trans (lots_few f7) (by decide))
    have lE := fr_len hE
    have lB := bk_len hB
    refine few_ok pb ok al hE hB c _ _ _ _ _ _ _ _ ?_
    refine best_ok pb ok al hE hB c _ _ _ _ _ _ _ _ _ ?_
    refine places_ok pb ok al hE hB c _ _ _ _ _ _ _ _ _ _ ?_
    simp only [dCons, dNil, dVar, List.getElem?_cons_zero, List.getElem?_cons_succ, Option.some.injEq, Sl.va.injEq, exists_eq_left']
    refine mins_ok pb ok al hE hB c _ _ _ _ _ _ _ _ _ _ _ ?_
    refine maxs_ok pb ok al hE hB c _ _ _ _ _ _ _ _ _ _ _ ?_
    refine ⟨by simp, ?_⟩
    simp only [dFnN, dCons, dNil, dVar, dC, List.getElem?_cons_zero, List.getElem?_cons_succ, Option.some.injEq, Sl.va.injEq, exists_eq_left', List.length]
    refine ⟨by trivial, n, m, L, G, _, rfl, .inr rfl, ok, fun E' hE' => ?_, fun a ha hf => by rw [al a ha] at hf; cases hf⟩
    have q1 := fr_one hE hE'
    subst q1
    refine ⟨by trivial, n, m, L, G, _, 0, rfl, .inl rfl, ok, .inl rfl, fun _ => ⟨fun _ B' hB' => ?_, fun z => by cases z⟩, fun z => absurd al z⟩
    have q2 := bk_one hB hB'
    subst q2
    refine ⟨by trivial, n, m, L, G, _, 1, rfl, .inr rfl, ok, .inr rfl, fun _ => ⟨(fun z => by cases z), fun _ E' hE' => ?_⟩, fun z => absurd al z⟩
    have q3 := fr_one hE hE'
    subst q3
    refine ⟨by simp, ?_⟩
    simp only [sFor, iRange2, dCons, dNil, dUn, negD, dBin, dVar, dC, addD, List.getElem?_cons_zero, List.getElem?_cons_succ, Option.some.injEq, Sl.va.injEq, exists_eq_left']
    refine ⟨⟨by decide, by decide, by omega, by omega⟩, ?_⟩
    rw [ivs_map]
    have len3 : (([D.int ((E.length : Int) - 1), intsT B.reverse.tail, intsT E.dropLast] : List D)).length = 3 := rfl
    have oks : ∀ x ∈ ([D.int ((E.length : Int) - 1), intsT B.reverse.tail, intsT E.dropLast] : List D), okS 5 x := fun x hx => by
      simp at hx
      rcases hx with rfl | rfl | rfl
      · trivial
      · have := okS_ints 4 (l := B.reverse.tail) (by rw [List.length_tail, List.length_reverse]; omega)
        simpa using this
      · exact okS_ints 4 (by rw [List.length_dropLast]; omega)
    refine could_loop ok al hE hB lb _ Q c _ _ _ _ _ _ _ _ _ _ _ _ _ _ (by rw [List.length_map, List.length_range, len3]; omega) oks fun l1 h1 h2 s13 => ?_
    rw [List.length_map, List.length_range, len3] at h2
    simp only [sFor, iRange1, dCons, dNil, dC]
    refine ⟨by decide, by decide, ?_⟩
    have l5 : (ivs 0 5).length = 5 := by decide
    refine sure_loop ok al hE hB lb _ Q _ _ _ _ _ _ (ivs 0 5) l1 c _ _ _ (by rw [l5]; omega) (by rw [l5]; omega) h1 fun l2 c2 h3 h4 s14 s15 s16 => ?_
    simp only [sRet, dFnN, dCons, dNil, dBin, dOwn, dLst, dVar, addD, List.getElem?_cons_zero, List.getElem?_cons_succ, Option.some.injEq, Sl.va.injEq, Sl.ow.injEq, exists_eq_left', List.length]
    rw [l5] at h4
    refine ⟨by decide, by omega, by trivial, pieceT L G, rfl, okT_pieceT 2 ok.fewL ok.fewG, by decide, by omega, by trivial, .lst (l2 ++ [pieceS L G]), ?_, ?_, h c2⟩
    · rw [lisN_pieceT 2]
    · refine okS_list (by simp; omega) fun x hx => ?_
      rcases List.mem_append.mp hx with hx | hx
      · exact h3 x hx
      · rw [List.mem_singleton.mp hx]
        exact okS_pieceS ok.fewL ok.fewG
  · have hnl : (lotsF (fitB n m L G) G.length).isEmpty = true := by
      rw [List.isEmpty_iff, List.eq_nil_iff_forall_not_mem]
      intro own ho
      exact al fun a ha => lot_fit (fit_mono ok) ((lots_mem ok.pos).mp ho) (Nat.zero_le _) ha
    rw [hnl]
    simp only [if_true]
    exact none_ok pb ok al c Q (h c) _ _ _ _ _ _ _ _ _
end Pd
end
section
set_option Elab.async false
set_option linter.all false
set_option maxRecDepth 100000
/-! PV0: what raises Unfit, over data. -/
namespace Pd
open PySem PySem.Spec PyProof.Rows L2
/-- the class Unfit -/
structure ExU (K : PySem.W.Frag) (mg : Str → Option Value) (C : Addr) : Prop where
  gC : mg "Unfit" = some (.ref C)
  xC : PySem.W.excIn K C [.type "ValueError", .type "Exception", .type "BaseException", .type "object"] "ValueError.__new__" = true
  kC : PySem.W.keepIn K (.ref C) = true
  bC : PySem.W.subIn K (.ref C) (.type "BaseException") = some true
  tC : PySem.W.typeIn K (.ref C) = some (.type "type")
  eC : PySem.W.exmOne K (.ref C) (.ref C) = some true
section
variable {X : Cx} {C : Addr} {bmB : List Value} {B newId initId : String} {x : Str} {p pos : Pos}
/-- X(), X an own exception class without own __init__ -/
theorem pmk_own0 (F : ExcBaseFacts B newId initId bmB) (q : PySem.W.excIn X.K C bmB newId = true) (gC : X.mg x = some (.ref C)) (kC : PySem.W.keepIn X.K (.ref C) = true) (r : Raises X (.ref C)) (hg : Gl X x)
    (hdb : (x == ("__debug__" : Str)) = false := by decide) : PMk X (.Call (.Name x p) [] [] pos) (fun _ H Q => Q (.ref C) none H) := by
  intro pins s σ H Q I h
  refine wpAny_Call_Name_kw (ld_glob I hg gC ?_ hdb)
  refine PySem.W.callWith_K0 I.kIn kC ?_
  show wpAny _ _ (call (.ref C) []) _ _ _
  obtain ⟨bm, N, nm, qn, bs, hdct, sn, sub, ab, col, dd, k0, k1, k2, k3, k5, mN, hC, hN, hni, T⟩ := exc_obj I.kIn q
  refine wpAny_call_exc_subT F T hC hN hni (fun h' e hm => ?_) (Nat.zero_le _)
  exact mk_of I hm r h (I.hok.gone hm.new)
end
/-- what raises, by data -/
abbrev TXD := Rho → Nat → (Rho → Nat → Prop) → Prop
def upX (K : PySem.W.Frag) (W : WX) (C : Addr) (t : TXD) : TE := fun σ H _ => ∃ (τ : Option Addr) (H0 G : Hp) (ρ : Rho) (c : Nat) (P : Rho → Nat → Prop), W0 τ G H c ∧ EnvR K τ H0 G H σ ρ ∧ t ρ c P ∧
  ∀ ρ' c' G' H', P ρ' c' → Step τ G H c G' H' c' → EnvR K τ H0 G' H' σ ρ' → W (.ref C) none σ H'
abbrev PXD (X : Cx) (W : WX) (C : Addr) (e : Expr) (t : TXD) : Prop := PE X e (upX X.K W C t)
abbrev SpX := List D → Nat → (Nat → Prop) → Prop
def upFX (K : PySem.W.Frag) (C : Addr) (n : Nat) (sp : SpX) : Sp := fun vs H _ E => ∃ (τ : Option Addr) (G : Hp) (ds : List D) (c : Nat) (P : Nat → Prop), W0 τ G H c ∧ Reps K τ G vs ds ∧ ds.length = n ∧ sp ds c P ∧ ∀ c' G' H', P c' → Step τ G H c G' H' c' → E (.ref C) none H'
/-- a def that raises -/
def KnX (P : Program) (w : World) (K : PySem.W.Frag) (mg : Str → Option Value) (base : Heap) (C : Addr) (x : Str) (k : Nat) (ps : List Str) (sp : SpX) : Prop :=
  ∃ f fd, FnOk P w K mg base (L2.CX P w) k f fd ps (upFX K C ps.length sp) ∧ mg x = some (.ref f) ∧ PySem.W.keepIn K (.ref f) = true ∧ Binds K fd ps []
@[simp] def xCall (n : Nat) (sp : SpX) (ta : TAD) : TXD := fun ρ c P => ta ρ c fun ds c1 => ds.length = n ∧ sp ds c1 fun c' => P ρ c'
@[simp] def xIf (t : TTD) (a b : TXD) : TXD := fun ρ c P => t ρ c fun k c1 => if k = true then a ρ c1 P else b ρ c1 P
section
variable {X : Cx} {W : WX} {C : Addr} {e a b cc : Expr} {es : List Expr} {p pos : Pos} {tt : TTD} {ta tb : TXD}
theorem pxd_call (tk : Takes X W) {k j n : Nat} {ps : List Str} {sp : SpX} {x : Str} {t : TAD} (F : KnX X.prog X.w X.K X.mg X.base C x j ps sp) (hn : ps.length = n) (hr : Room k X.A) (h : j ≤ k) (hg : Gl X x)
    (ha : PAD X (e :: es) t) (hdb : (x == ("__debug__" : Str)) = false := by decide) (he : starEach (e :: es) X.env = (false, eval e X.env) :: starEach es X.env := by rfl) (hpl : (backTo pos (starEach es X.env)).any (·.1) = false := by rfl) :
    PXD X W C (.Call (.Name x p) (e :: es) [] pos) (xCall n sp t) := by
  subst hn
  obtain ⟨f, fd, F, hm, hk, hb⟩ := F
  exact pe_imp (pe_callS F (hr.mono h) hg hm hk hb (fun σ => passAt tk σ) ha hdb he hpl) fun σ H Q ⟨τ, H0, G, ρ, c, P, w, en, p, q⟩ => ⟨τ, H0, G, ρ, c, _, w, en, p, fun ds c1 vs G1 H1 ⟨p0, p1⟩ s1 r1 =>
    ⟨τ, G1, ds, c1, _, s1.w0 w, r1.reps, p0, p1, fun c' G' H' pp s' => q ρ c' G' H' pp (s1.trans w s') (en.step (s1.trans w s'))⟩⟩
theorem pxd_if (hc : PTD X cc tt) (ha : PXD X W C a ta) (hb : PXD X W C b tb) : PXD X W C (.IfExp cc a b pos) (xIf tt ta tb) :=
  pe_imp (pe_ifExp hc ha hb) fun σ H Q ⟨τ, H0, G, ρ, c, P, w, en, p, q⟩ => ⟨τ, H0, G, ρ, c, _, w, en, p, fun k c1 G1 H1 p1 s1 => by
    cases k with
    | true => exact ⟨τ, H0, G1, ρ, c1, _, s1.w0 w, en.step s1, p1, fun ρ' c2 G2 H2 p2 s2 e2 => q ρ' c2 G2 H2 p2 (s1.trans w s2) e2⟩
    | false => exact ⟨τ, H0, G1, ρ, c1, _, s1.w0 w, en.step s1, p1, fun ρ' c2 G2 H2 p2 s2 e2 => q ρ' c2 G2 H2 p2 (s1.trans w s2) e2⟩⟩
theorem pe_never : PE X e (fun _ _ _ => False) := ⟨fun _ _ _ _ _ _ h => h.elim⟩
theorem pts_never {ifs : List Expr} : PTs X ifs (fun _ _ _ => False) := ⟨fun _ _ _ _ _ _ h => h.elim⟩
end
/-! statements -/
def upXS (K : PySem.W.Frag) (τ : Option Addr) (G0 H0 : Hp) (c0 : Nat) (W : WX) (C : Addr) (t : TXD) : TS := fun _ σ H => ∃ (G : Hp) (ρ : Rho) (c : Nat) (P : Rho → Nat → Prop), W0 τ G0 H0 c0 ∧ Step τ G0 H0 c0 G H c ∧ EnvR K τ H0 G H σ ρ ∧ t ρ c P ∧
  ∀ ρ' σ' c' G' H', P ρ' c' → Step τ G0 H0 c0 G' H' c' → (∀ a o, G a = some o → G' a = some o) → EnvR K τ H0 G' H' σ' ρ' → W (.ref C) none σ' H'
abbrev PXS (X : Cx) (τ : Option Addr) (G0 H0 : Hp) (c0 : Nat) (W : WX) (C : Addr) (st : Stmt) (t : TXD) : Prop := PS X st (upXS X.K τ G0 H0 c0 W C t)
abbrev PXSs (X : Cx) (τ : Option Addr) (G0 H0 : Hp) (c0 : Nat) (W : WX) (C : Addr) (sts : List Stmt) (t : TXD) : Prop := PSs X sts (upXS X.K τ G0 H0 c0 W C t)
@[simp] def xSeq (t : TSD) (u : TXD) : TXD := fun ρ c P => t ρ c (fun ρ' c' => u ρ' c' P) (fun _ _ => False)
@[simp] def xNow : TXD := fun ρ c P => P ρ c
section
variable {X : Cx} {W : WX} {C : Addr} {τ : Option Addr} {G0 H0 : Hp} {c0 : Nat} {st : Stmt} {sts rest : List Stmt} {e cc : Expr} {a b : List Stmt} {p pos pos' : Pos} {t : TSD} {u v : TXD} {tt : TTD}
theorem pxss_cons (h1 : PSD X τ G0 H0 c0 st t) (h2 : PXSs X τ G0 H0 c0 W C rest u) : PXSs X τ G0 H0 c0 W C (st :: rest) (xSeq t u) :=
  pss_imp (pss_cons h1 h2) fun D σ H ⟨G, ρ, c, P, w, s, en, p, q⟩ => ⟨G, ρ, c, _, _, w, s, en, p, fun ρ' c' σ' G' H' n s' g' en' => ⟨G', ρ', c', P, w, s', en', n, fun ρ2 σ2 c2 G2 H2 p2 s2 g2 e2 => q ρ2 σ2 c2 G2 H2 p2 s2 (fun a o h => g2 a o (g' a o h)) e2⟩, fun _ _ _ _ _ z => z.elim⟩
theorem pxss_one (h1 : PXS X τ G0 H0 c0 W C st u) : PXSs X τ G0 H0 c0 W C [st] u := pss_one h1
/-- what follows a statement that raises needs nothing -/
theorem pxss_head (h1 : PXS X τ G0 H0 c0 W C st u) : PXSs X τ G0 H0 c0 W C (st :: rest) u := pss_imp (pss_cons h1 pss_never) fun D σ H h => h
theorem pxs_if (hc : PTD X cc tt) (ha : PXSs X τ G0 H0 c0 W C a u) (hb : PXSs X τ G0 H0 c0 W C b v) : PXS X τ G0 H0 c0 W C (.If cc a b pos) (xIf tt u v) :=
  ps_imp (ps_if hc ha hb) fun D σ H ⟨G, ρ, c, P, w, s, en, p, q⟩ => ⟨τ, H0, G, ρ, c, _, s.w0 w, en, p, fun k c1 G1 H1 p1 s1 => by
    cases k with
    | true => exact iteT ⟨G1, ρ, c1, _, w, s.trans w s1, en.step s1, p1, fun ρ2 σ2 c2 G2 H2 p2 s2 g2 e2 => q ρ2 σ2 c2 G2 H2 p2 s2 (fun a o h => g2 a o (s1.gg a o h)) e2⟩
    | false => exact iteF ⟨G1, ρ, c1, _, w, s.trans w s1, en.step s1, p1, fun ρ2 σ2 c2 G2 H2 p2 s2 g2 e2 => q ρ2 σ2 c2 G2 H2 p2 s2 (fun a o h => g2 a o (s1.gg a o h)) e2⟩⟩
theorem pxs_raise (hc : X.calm = true) (tk : Takes X W) (U : ExU X.K X.mg C) (hg : Gl X "Unfit") : PXS X τ G0 H0 c0 W C (.Raise (some (.Call (.Name "Unfit" p) [] [] pos)) none pos') xNow :=
  ps_imp (ps_raise hc tk (pmk_own0 PySem.F.excBase_ValueError U.xC U.gC U.kC (raises_own U.bC U.tC) hg)) fun D σ H ⟨G, ρ, c, P, w, s, en, p, q⟩ => q ρ σ c G H p s (fun _ _ h => h) en
theorem ent_x : ∀ (D : Ends) σ H Q, upXS X.K τ G0 H0 c0 W C u D σ H → upX X.K W C u σ H Q := fun D σ H Q ⟨G, ρ, c, P, w, s, en, p, q⟩ => ⟨τ, H0, G, ρ, c, P, s.w0 w, en, p, fun ρ' c' G' H' pp s' e' => q ρ' σ c' G' H' pp (s.trans w s') s'.gg e'⟩
theorem pxs_ret (h : PXD X W C e u) : PXS X τ G0 H0 c0 W C (.Return (some e) pos) u := ps_imp (ps_ret h) fun D σ H q => ent_x D σ H _ q
theorem pxs_expr (h : PXD X W C e u) (hs : swapsWith e none pos.line X.env = pure false := by rfl) : PXS X τ G0 H0 c0 W C (.Expr e pos) u := ps_imp (ps_expr h hs) fun D σ H q => ent_x D σ H _ q
theorem pxss_never : PXSs X τ G0 H0 c0 W C sts (fun _ _ _ => False) := pss_imp pss_never fun D σ H ⟨G, ρ, c, P, w, s, en, p, q⟩ => p
/-- a try that runs through -/
theorem psd_try0 {body : List Stmt} {h0 : ExceptHandler} {hds : List ExceptHandler} (hb : PSsD X.nox τ G0 H0 c0 body t) : PSD X τ G0 H0 c0 (.Try body (h0 :: hds) [] [] pos) t := ps_try_thru0 hb
/-- a try whose body raises Unfit -/
theorem psd_tryX {body suite : List Stmt} {b0 : Stmt} {np : Pos} (hst : X.stack = X.env :: X.outer) (hf : X.env.frame = some X.env.locals) (U : ExU X.K X.mg C) (hg : Gl X "Unfit")
    (hb : ∀ (W : WX) (pn : List (Addr × Obj)) (xe : Value → Shared → Prop), Takes (X.tr pn xe) W → PXSs (X.tr pn xe) τ G0 H0 c0 W C body u)
    (hs : ∀ (a : Addr) (oe : Obj) (pn : List (Addr × Obj)), PSsD (X.suite a ((a, oe) :: pn)) τ G0 H0 c0 (b0 :: suite) t) :
    PSD X τ G0 H0 c0 (.Try body [.ExceptHandler (some (.Name "Unfit" np)) none (b0 :: suite) pos'] [] [] pos) (fun ρ c N R => u ρ c fun ρ' c' => t ρ' c' N R) :=
  ps_imp (ps_try_only (Wout := fun _ _ _ _ => False) (tb := fun W => upXS X.K τ G0 H0 c0 W C u) (ts := fun _ _ _ => upS X.K τ G0 H0 c0 t) hst hf ⟨hg, by decide, .inl U.gC⟩ takes0 (fun W pn xe tk _ => hb W pn xe tk) (fun a oe cls d pn _ _ => hs a oe pn)) fun D σ H ⟨G, ρ, c, N, R, w, s, en, p, q, r⟩ =>
    ⟨G, ρ, c, _, w, s, en, p, fun ρ' σ' c' G' H' pp s' g' e' => ⟨true, U.eC, fun _ a ha => ⟨G', ρ', c', N, R, w, s', e', pp, fun ρ2 c2 σ2 G2 H2 n2 s2 g2 e2 => q ρ2 c2 σ2 G2 H2 n2 s2 (fun a o h => g2 a o (g' a o h)) e2, r⟩, fun z => nomatch z⟩⟩
end
theorem fnOr {P : Program} {w : World} {K : PySem.W.Frag} {mg : Str → Option Value} {base : Heap} {CX : CXT} {k n : Nat} {f : Addr} {fd : FuncData} {ps : List Str} {sp sp1 sp2 : SpD} (F1 : FnOk P w K mg base CX k f fd ps (upF K n sp1)) (F2 : FnOk P w K mg base CX k f fd ps (upF K n sp2))
    (h : ∀ ds c Q, sp ds c Q → sp1 ds c Q ∨ sp2 ds c Q) : FnOk P w K mg base CX k f fd ps (upF K n sp) :=
  ⟨fun vs H Q E ⟨τ, G, ds, c, P, w0, r', hl, hsp, q⟩ => (h _ _ _ hsp).elim (fun a => F1.len vs H Q E ⟨τ, G, ds, c, P, w0, r', hl, a, q⟩) (fun a => F2.len vs H Q E ⟨τ, G, ds, c, P, w0, r', hl, a, q⟩),
    fun A outer s H args us vs Q E hr e0 b r ⟨τ, G, ds, c, P, w0, r', hl, hsp, q⟩ => (h _ _ _ hsp).elim (fun a => F1.run A outer s H args us vs Q E hr e0 b r ⟨τ, G, ds, c, P, w0, r', hl, a, q⟩) (fun a => F2.run A outer s H args us vs Q E hr e0 b r ⟨τ, G, ds, c, P, w0, r', hl, a, q⟩)⟩
/-- a def with two derivations -/
theorem knD2 {P : Program} {w : World} {K : PySem.W.Frag} {mg : Str → Option Value} {base : Heap} {x : Str} {i : Nat} {N ps : List Str} {k : Nat} {sp sp1 sp2 : SpD} (D : Dfn K mg x i ps) (S : FnScope N ps (defScope (top i))) (h : ∀ ds c Q, sp ds c Q → sp1 ds c Q ∨ sp2 ds c Q) (t1 t2 : TSD)
    (hs1 : ∀ ds c Q, ds.length = ps.length → sp1 ds c Q → t1 (startR N ds) c (fun _ c' => Q .non c') Q) (hs2 : ∀ ds c Q, ds.length = ps.length → sp2 ds c Q → t2 (startR N ds) c (fun _ c' => Q .non c') Q)
    (hb1 : ∀ (f : Addr) (cdv : Value) (A : Around) (outer : List Env) (s : Shared) (H : Hp) (E : XK) (τ : Option Addr) (G : Hp) (c : Nat), Room k (A.deeper (envOfC x (defScope (top i)) s.heap.objs.size f cdv)) →
      PSsD (cxOf CX0 P w K mg base N x (defScope (top i)) f cdv A outer s H E).nox τ G H c (defBody (top i)) t1)
    (hb2 : ∀ (f : Addr) (cdv : Value) (A : Around) (outer : List Env) (s : Shared) (H : Hp) (E : XK) (τ : Option Addr) (G : Hp) (c : Nat), Room k (A.deeper (envOfC x (defScope (top i)) s.heap.objs.size f cdv)) →
      PSsD (cxOf CX0 P w K mg base N x (defScope (top i)) f cdv A outer s H E).nox τ G H c (defBody (top i)) t2) : Kn P w K mg base x (k + 1) ps sp := by
  obtain ⟨f, fd, F, hm, hb'⟩ := D
  exact ⟨f, fd, fnOr (okD F S t1 hs1 (hb1 f)) (okD F S t2 hs2 (hb2 f)) h, hm, F.kp, hb'⟩
/-- THE RULE for a def that raises, by data -/
theorem knX {P : Program} {w : World} {K : PySem.W.Frag} {mg : Str → Option Value} {base : Heap} {C : Addr} {x : Str} {i : Nat} {N ps : List Str} {k : Nat} {sp : SpX} (D : Dfn K mg x i ps) (S : FnScope N ps (defScope (top i))) (t : TXD)
    (hs : ∀ ds c Q, ds.length = ps.length → sp ds c Q → t (startR N ds) c (fun _ c' => Q c'))
    (hb : ∀ (f : Addr) (cdv : Value) (A : Around) (outer : List Env) (s : Shared) (H : Hp) (E : XK) (τ : Option Addr) (G : Hp) (c : Nat), Room k (A.deeper (envOfC x (defScope (top i)) s.heap.objs.size f cdv)) →
      PXSs (cxOf (L2.CX P w) P w K mg base N x (defScope (top i)) f cdv A outer s H E) τ G H c (fun cls d _ H' => E cls d H') C (defBody (top i)) t) : KnX P w K mg base C x (k + 1) ps sp := by
  obtain ⟨f, fd, F, hm, hb'⟩ := D
  exact ⟨f, fd, F.okX S (fun vs H Q E ⟨τ, G, ds, c, P, w0, r, hl, _⟩ => r.len.trans hl) fun cdv A outer s H vs Q E hr ⟨τ, G, ds, c, P', w0, r, hl, hsp, q⟩ =>
    ⟨_, hb f cdv A outer s H E τ G c hr, G, startR N ds, c, _, w0, w0.refl, start_env r, hs ds c P' hl hsp, fun ρ' σ' c' G' H' p' s' _ _ => q c' G' H' p' s'⟩, hm, F.kp, hb'⟩
end Pd
end
section
set_option Elab.async false
set_option linter.all false
set_option maxRecDepth 100000
set_option maxHeartbeats 4000000
/-! PV1: earliest, latest, could, sure where no changes fit: Unfit; heard, refused. -/
namespace Pd
open PySem PyProof.Rows L2 RZ Ma Mc
open PySem.Spec hiding Row
def spx_one : SpX := fun ds c P => ∃ (n m : Nat) (L G : List Row) (d : D), ds = [d] ∧ IsPc d L G ∧ PcOk n m L G ∧ ¬ AllFit n m L G ∧ P c
def spx_could : SpX := fun ds c P => ∃ (n m : Nat) (L G : List Row) (d : D) (k : Int), ds = [d, .int k] ∧ IsPc d L G ∧ PcOk n m L G ∧ ¬ AllFit n m L G ∧ P c
def spx_sure : SpX := fun ds c P => ∃ (n m : Nat) (L G : List Row) (d : D) (a b : Int), ds = [d, .int a, .int b] ∧ IsPc d L G ∧ PcOk n m L G ∧ ¬ AllFit n m L G ∧ P c
theorem all_of_fr {n m : Nat} {L G : List Row} (ok : PcOk n m L G) {E : List Nat} (hE : Fr (fitB n m L G) G.length 0 E) : AllFit n m L G :=
  fun a ha => lot_fit (fit_mono ok) (lot_front ok.pos hE) (Nat.zero_le _) ha
def tx_latest (sp_tupled sp_front_ends : SpD) : TXD := xSeq (sSet .va 1 (dFnN 1 sp_tupled (dCons (dVar 0) dNil)))
  (xSeq (sSet .va 2 (dFnN 2 sp_front_ends (dCons (dVar 1) (dCons (dCall len1 (dCons (dBin ixD (dVar 1) (dC (.int 1))) dNil)) dNil))))
  (xIf (bT (dUn isND (dVar 2))) xNow fun _ _ _ => False))
def tx_earliest (sp_tupled sp_fewest_changes : SpD) : TXD := xSeq (sSet .va 1 (dFnN 1 sp_tupled (dCons (dVar 0) dNil)))
  (xIf (bT (dUn isND (dFnN 1 sp_fewest_changes (dCons (dVar 1) dNil)))) xNow fun _ _ _ => False)
def tx_sure (sp_tupled sp_front_ends : SpD) : TXD := xSeq (sSet .va 3 (dFnN 1 sp_tupled (dCons (dVar 0) dNil)))
  (xSeq (sSet .va 4 (dCall len1 (dCons (dBin ixD (dVar 3) (dC (.int 1))) dNil)))
  (xSeq (sSet .va 5 (dFnN 2 sp_front_ends (dCons (dVar 3) (dCons (dVar 4) dNil))))
  (xIf (bT (dUn isND (dVar 5))) xNow fun _ _ _ => False)))
theorem hx_latest {k : Nat} (ds : List D) (c : Nat) (Q : Nat → Prop) (h : spx_one ds c Q) : tx_latest (sp_tupled (k + 4)) sp_front_ends (startR ["piece", "own", "ends"] ds) c (fun _ c' => Q c') := by
  obtain ⟨n, m, L, G, d, rfl, pc, ok, al, h⟩ := h
  obtain ⟨o1, o2⟩ := isPc_ok k pc ok.fewL ok.fewG
  simp [tx_latest]
  refine ⟨d, rfl, o1, ?_⟩
  rw [o2]
  simp [pieceT, at1, rowsT]
  refine ⟨n, m, L, G, rfl, ok, fun E hE => absurd (all_of_fr ok hE) al, fun a ha hf => ?_⟩
  simpa [D.isN] using h
theorem hx_earliest {k : Nat} (ds : List D) (c : Nat) (Q : Nat → Prop) (h : spx_one ds c Q) : tx_earliest (sp_tupled (k + 4)) sp_fewest_changes (startR ["piece", "own"] ds) c (fun _ c' => Q c') := by
  obtain ⟨n, m, L, G, d, rfl, pc, ok, al, h⟩ := h
  obtain ⟨o1, o2⟩ := isPc_ok k pc ok.fewL ok.fewG
  simp [tx_earliest]
  refine ⟨d, rfl, o1, ?_⟩
  rw [o2]
  refine ⟨n, m, L, G, _, rfl, .inl rfl, ok, fun E hE => absurd (all_of_fr ok hE) al, fun a ha hf => ?_⟩
  simpa [D.isN] using h
theorem hx_sure {k : Nat} (ds : List D) (c : Nat) (Q : Nat → Prop) (h : spx_sure ds c Q) : tx_sure (sp_tupled (k + 4)) sp_front_ends (startR ["piece", "first", "last", "own", "size", "ends", "starts", "low", "tick", "high"] ds) c (fun _ c' => Q c') := by
  obtain ⟨n, m, L, G, d, first, last, rfl, pc, ok, al, h⟩ := h
  obtain ⟨o1, o2⟩ := isPc_ok k pc ok.fewL ok.fewG
  simp [tx_sure]
  refine ⟨d, rfl, o1, ?_⟩
  rw [o2]
  simp [pieceT, at1, rowsT]
  refine ⟨n, m, L, G, rfl, ok, fun E hE => absurd (all_of_fr ok hE) al, fun a ha hf => ?_⟩
  simpa [D.isN] using h
theorem hx_could (ds : List D) (c : Nat) (Q : Nat → Prop) (h : spx_could ds c Q) : xCall 1 spx_one (dCons (dVar 0) dNil) (startR ["piece", "tick", "low", "high"] ds) c (fun _ c' => Q c') := by
  obtain ⟨n, m, L, G, d, k, rfl, pc, ok, al, h⟩ := h
  simp
  exact ⟨n, m, L, G, d, rfl, pc, ok, al, h⟩
theorem pxd_anyLc {X : Cx} {W : WX} {C : Addr} {u : TXD} {elt tg iter : Expr} {scope : Scope} {own : List (Str × Nat)} {p pos pos2 : Pos} {wi : TI} {g : TG} (hc : X.calm = true) (hgl : Gl X "any") (hm : X.mg "any" = none) (hN : X.N.Nodup) (hi : PI X tg iter wi) (hk : ∀ σ H R, upX X.K W C u σ H (fun _ _ => True) → wi σ H R) (ok : BlkOk X.N X.env.scope scope own)
    (hg : ∀ (s : Shared) (H : Hp) (C : Addr) (cl : List (Str × Addr)) (fp : List Addr), PG (X.blk s H scope (compEnvC scope cl C X.env) fp) tg g) (hs : ∀ x, foldedSetIterable iter X.env x = pure x := by intro _; rfl)
    (he : starEach [.ListComp elt [⟨tg, iter, [], 0⟩] scope pos] X.env = (false, eval (.ListComp elt [⟨tg, iter, [], 0⟩] scope pos) X.env) :: starEach [] X.env := by rfl) (hpl : (backTo pos2 (starEach [] X.env)).any (·.1) = false := by rfl) :
    PXD X W C (.Call (.Name "any" p) [.ListComp elt [⟨tg, iter, [], 0⟩] scope pos] [] pos2) u :=
  pe_imp (pe_callB (cr_any hc) hgl hm (by decide +kernel) (pa_cons (pe_lc hc hN hi ok hg (fun _ _ _ _ _ => pts_nil) (fun _ _ _ _ _ => pe_never) hs) pa_nil he) (he := he) (hpl := hpl)) fun σ H Q h => hk σ H _ h
section
variable {P : Program} {w : World} {K : PySem.W.Frag} {mg : Str → Option Value} {base : Heap} {C : Addr} {k : Nat}
theorem nx_latest : FnScope ["piece", "own", "ends"] ["piece"] (defScope (top 37)) := ⟨rfl, rfl, rfl, by decide +kernel, rfl, by decide +kernel, by decide +kernel⟩
theorem nx_earliest : FnScope ["piece", "own"] ["piece"] (defScope (top 38)) := ⟨rfl, rfl, rfl, by decide +kernel, rfl, by decide +kernel, by decide +kernel⟩
theorem nx_could : FnScope ["piece", "tick", "low", "high"] ["piece", "tick"] (defScope (top 39)) := ⟨rfl, rfl, rfl, by decide +kernel, rfl, by decide +kernel, by decide +kernel⟩
theorem nx_sure : FnScope ["piece", "first", "last", "own", "size", "ends", "starts", "low", "tick", "high"] ["piece", "first", "last"] (defScope (top 41)) := ⟨rfl, rfl, rfl, by decide +kernel, rfl, by decide +kernel, by decide +kernel⟩
theorem kx_latest (F : Fr0 K mg) (U : ExU K mg C) (D : Dfn K mg "latest_changes" 37 ["piece"]) {i j1 j2 : Nat} (k_tupled : Kn P w K mg base "tupled" j1 ["thing"] (sp_tupled (i + 4))) (l1 : j1 ≤ k) (k_front_ends : Kn P w K mg base "front_ends" j2 ["piece", "size"] sp_front_ends) (l2 : j2 ≤ k) :
    KnX P w K mg base C "latest_changes" (k + 1) ["piece"] spx_one :=
  have nd := nx_latest.nd
  knX D nx_latest (tx_latest (sp_tupled (i + 4)) sp_front_ends) (fun ds c Q _ h => hx_latest ds c Q h) fun f cdv A outer s H E τ G c hr =>
    (pxss_cons (psd_set (k := .va) (i := 1) nd rfl (by first | exact Or.inl rfl | exact Or.inr rfl) (ppd_callK k_tupled rfl hr (by omega) (by rfl) (pad_cons (ppd_var (pv 0)) pad_nil)))
      (pxss_cons (psd_set (k := .va) (i := 2) nd rfl (by first | exact Or.inl rfl | exact Or.inr rfl) (ppd_callK k_front_ends rfl hr (by omega) (by rfl) (pad_cons (ppd_var (pv 1)) (pad_cons (ppd_len (by rfl) F.len (pab_cons (pb_of (ppd_ix (pb_of (ppd_var (pv 1))) ppd_int)) pab_nil)) pad_nil))))
      (pxss_head (pxs_if (ptd_isN (ppd_var (pv 2))) (pxss_one (pxs_raise rfl (takes_of rfl rfl rfl rfl) U (by rfl))) pxss_never))))
theorem kx_earliest (F : Fr0 K mg) (U : ExU K mg C) (D : Dfn K mg "earliest_changes" 38 ["piece"]) {i j1 j2 : Nat} (k_tupled : Kn P w K mg base "tupled" j1 ["thing"] (sp_tupled (i + 4))) (l1 : j1 ≤ k) (k_fewest_changes : Kn P w K mg base "fewest_changes" j2 ["piece"] sp_fewest_changes) (l2 : j2 ≤ k) :
    KnX P w K mg base C "earliest_changes" (k + 1) ["piece"] spx_one :=
  have nd := nx_earliest.nd
  knX D nx_earliest (tx_earliest (sp_tupled (i + 4)) sp_fewest_changes) (fun ds c Q _ h => hx_earliest ds c Q h) fun f cdv A outer s H E τ G c hr =>
    (pxss_cons (psd_set (k := .va) (i := 1) nd rfl (by first | exact Or.inl rfl | exact Or.inr rfl) (ppd_callK k_tupled rfl hr (by omega) (by rfl) (pad_cons (ppd_var (pv 0)) pad_nil)))
      (pxss_head (pxs_if (ptd_isN (ppd_callK k_fewest_changes rfl hr (by omega) (by rfl) (pad_cons (ppd_var (pv 1)) pad_nil))) (pxss_one (pxs_raise rfl (takes_of rfl rfl rfl rfl) U (by rfl))) pxss_never)))
theorem kx_sure (F : Fr0 K mg) (U : ExU K mg C) (D : Dfn K mg "sure_change" 41 ["piece", "first", "last"]) {i j1 j2 : Nat} (k_tupled : Kn P w K mg base "tupled" j1 ["thing"] (sp_tupled (i + 4))) (l1 : j1 ≤ k) (k_front_ends : Kn P w K mg base "front_ends" j2 ["piece", "size"] sp_front_ends) (l2 : j2 ≤ k) :
    KnX P w K mg base C "sure_change" (k + 1) ["piece", "first", "last"] spx_sure :=
  have nd := nx_sure.nd
  knX D nx_sure (tx_sure (sp_tupled (i + 4)) sp_front_ends) (fun ds c Q _ h => hx_sure ds c Q h) fun f cdv A outer s H E τ G c hr =>
    (pxss_cons (psd_set (k := .va) (i := 3) nd rfl (by first | exact Or.inl rfl | exact Or.inr rfl) (ppd_callK k_tupled rfl hr (by omega) (by rfl) (pad_cons (ppd_var (pv 0)) pad_nil)))
      (pxss_cons (psd_set (k := .va) (i := 4) nd rfl (by first | exact Or.inl rfl | exact Or.inr rfl) (ppd_len (by rfl) F.len (pab_cons (pb_of (ppd_ix (pb_of (ppd_var (pv 3))) ppd_int)) pab_nil)))
      (pxss_cons (psd_set (k := .va) (i := 5) nd rfl (by first | exact Or.inl rfl | exact Or.inr rfl) (ppd_callK k_front_ends rfl hr (by omega) (by rfl) (pad_cons (ppd_var (pv 3)) (pad_cons (ppd_var (pv 4)) pad_nil))))
      (pxss_head (pxs_if (ptd_isN (ppd_var (pv 5))) (pxss_one (pxs_raise rfl (takes_of rfl rfl rfl rfl) U (by rfl))) pxss_never)))))
theorem kx_could (F : Fr0 K mg) (D : Dfn K mg "could_change" 39 ["piece", "tick"]) {j1 : Nat} (k_earliest : KnX P w K mg base C "earliest_changes" j1 ["piece"] spx_one) (l1 : j1 ≤ k) :
    KnX P w K mg base C "could_change" (k + 1) ["piece", "tick"] spx_could :=
  have nd := nx_could.nd
  knX D nx_could (xCall 1 spx_one (dCons (dVar 0) dNil)) (fun ds c Q _ h => hx_could ds c Q h) fun f cdv A outer s H E τ G c hr => by
    refine pxss_one (pxs_ret ?_)
    refine pxd_anyLc (g := gTup K 2 (gCons (gName 2) (gCons (gName 3) gNil))) (own := [("low", 2), ("high", 3)]) rfl (by rfl) F.any nd (pi_zipA (by rfl) F.zip (pa_cons (pxd_call (takes_of rfl rfl rfl rfl) k_earliest rfl hr (by omega) (by rfl) (pad_cons (ppd_var (pv 0)) pad_nil)) (pa_cons pe_never pa_nil))) (fun σ H R h => h) ?_ ?_
    · exact blkOk_by (own := [("low", 2), ("high", 3)]) (N := ["piece", "tick", "low", "high"]) (sc := defScope (top 39)) (by decide +kernel)
    · intro _ _ _ _ _
      exact pg_tup rfl (pgs_cons (pg_name (i := 2) nd rfl (by first | exact Or.inl rfl | exact Or.inr rfl)) (pgs_cons (pg_name (i := 3) nd rfl (by first | exact Or.inl rfl | exact Or.inr rfl)) pgs_nil))
/-! the law's defs that catch it -/
def sp_heard1 : SpD := fun ds c Q => ∃ (n m : Nat) (L G : List Row) (d : D) (door : Int), ds = [.int door, d] ∧ IsPc d L G ∧ PcOk n m L G ∧ (door = 0 ∨ door = 1) ∧ AllFit n m L G ∧
  (door = 0 → ∀ B, Bk (fitB n m L G) G.length B → Q (intsT B.reverse.tail) c) ∧ (door = 1 → ∀ E, Fr (fitB n m L G) G.length 0 E → Q (intsT E.dropLast) c)
def sp_heard2 : SpD := fun ds c Q => ∃ (n m : Nat) (L G : List Row) (d : D) (door : Int), ds = [.int door, d] ∧ IsPc d L G ∧ PcOk n m L G ∧ (door = 0 ∨ door = 1) ∧ ¬ AllFit n m L G ∧ Q .non c
theorem heard_or (ds : List D) (c : Nat) (Q : D → Nat → Prop) (h : sp_law_heard ds c Q) : sp_heard1 ds c Q ∨ sp_heard2 ds c Q := by
  obtain ⟨n, m, L, G, d, door, rfl, pc, ok, hd, h1, h2⟩ := h
  by_cases al : AllFit n m L G
  · exact .inl ⟨n, m, L, G, d, door, rfl, pc, ok, hd, al, h1 al⟩
  · exact .inr ⟨n, m, L, G, d, door, rfl, pc, ok, hd, al, h2 al⟩
def t_heard1 : TSD := sRet (dIf (bT (dBin eqD (dVar 0) (dC (.int 0)))) (dFnN 1 sp_earliest_changes (dCons (dVar 1) dNil)) (dFnN 1 sp_latest_changes (dCons (dVar 1) dNil)))
def t_heard2 : TSD := fun ρ c N R => xIf (bT (dBin eqD (dVar 0) (dC (.int 0)))) (xCall 1 spx_one (dCons (dVar 1) dNil)) (xCall 1 spx_one (dCons (dVar 1) dNil)) ρ c fun ρ' c' => sRet (dC .non) ρ' c' N R
theorem hs_heard1 (ds : List D) (c : Nat) (Q : D → Nat → Prop) (h : sp_heard1 ds c Q) : t_heard1 (startR ["_law_door_so", "_law_piece_so"] ds) c (fun _ c' => Q .non c') Q := by
  obtain ⟨n, m, L, G, d, door, rfl, pc, ok, hd, al, h1, h2⟩ := h
  simp only [t_heard1, startR, sRet, dIf, bT, dBin, dFnN, dCons, dNil, dVar, dC, List.map, List.length, List.replicate, List.append, HAppend.hAppend, Append.append, List.getElem?_cons_zero, List.getElem?_cons_succ, Option.some.injEq, Sl.va.injEq, exists_eq_left', eqD_int]
  refine ⟨_, rfl, ?_⟩
  rcases hd with rfl | rfl
  · simp
    exact ⟨n, m, L, G, d, rfl, pc, ok, al, h1 rfl⟩
  · simp
    exact ⟨n, m, L, G, d, rfl, pc, ok, al, h2 rfl⟩
theorem hs_heard2 (ds : List D) (c : Nat) (Q : D → Nat → Prop) (h : sp_heard2 ds c Q) : t_heard2 (startR ["_law_door_so", "_law_piece_so"] ds) c (fun _ c' => Q .non c') Q := by
  obtain ⟨n, m, L, G, d, door, rfl, pc, ok, hd, al, h1⟩ := h
  simp only [t_heard2, startR, sRet, xIf, xCall, bT, dBin, dFnN, dCons, dNil, dVar, dC, List.map, List.length, List.replicate, List.append, HAppend.hAppend, Append.append, List.getElem?_cons_zero, List.getElem?_cons_succ, Option.some.injEq, Sl.va.injEq, exists_eq_left', eqD_int]
  refine ⟨_, rfl, ?_⟩
  rcases hd with rfl | rfl
  · simp
    exact ⟨n, m, L, G, d, rfl, pc, ok, al, h1⟩
  · simp
    exact ⟨n, m, L, G, d, rfl, pc, ok, al, h1⟩
theorem nx_heard : FnScope ["_law_door_so", "_law_piece_so"] ["_law_door_so", "_law_piece_so"] (defScope (top 75)) := ⟨rfl, rfl, rfl, by decide +kernel, rfl, by decide +kernel, by decide +kernel⟩
theorem d_law_heard (F : Fr0 K mg) (U : ExU K mg C) (D : Dfn K mg "_law_heard" 75 ["_law_door_so", "_law_piece_so"]) {j1 j2 j3 j4 : Nat} (k_e : Kn P w K mg base "earliest_changes" j1 ["piece"] sp_earliest_changes) (l1 : j1 ≤ k) (k_l : Kn P w K mg base "latest_changes" j2 ["piece"] sp_latest_changes) (l2 : j2 ≤ k)
    (x_e : KnX P w K mg base C "earliest_changes" j3 ["piece"] spx_one) (l3 : j3 ≤ k) (x_l : KnX P w K mg base C "latest_changes" j4 ["piece"] spx_one) (l4 : j4 ≤ k) : Kn P w K mg base "_law_heard" (k + 1) ["_law_door_so", "_law_piece_so"] sp_law_heard :=
  have nd := nx_heard.nd
  knD2 D nx_heard heard_or t_heard1 t_heard2 (fun ds c Q _ h => hs_heard1 ds c Q h) (fun ds c Q _ h => hs_heard2 ds c Q h)
    (fun f cdv A outer s H E τ G c hr => pssd_one (psd_try0 (pssd_one (psd_ret (ppd_if (Cmp.pt (c_eq hr.units (pb_of (ppd_var (pv 0))) (pb_of ppd_int))) (ppd_callK k_e rfl hr (by omega) (by rfl) (pad_cons (ppd_var (pv 1)) pad_nil)) (ppd_callK k_l rfl hr (by omega) (by rfl) (pad_cons (ppd_var (pv 1)) pad_nil)))))))
    (fun f cdv A outer s H E τ G c hr => pssd_one (psd_tryX rfl rfl U (by rfl) (fun W pn xe tk => pxss_one (pxs_ret (pxd_if (Cmp.pt (c_eq hr.units (pb_of (ppd_var (pv 0))) (pb_of ppd_int))) (pxd_call tk x_e rfl hr (by omega) (by rfl) (pad_cons (ppd_var (pv 1)) pad_nil)) (pxd_call tk x_l rfl hr (by omega) (by rfl) (pad_cons (ppd_var (pv 1)) pad_nil)))))
      (fun a oe pn => pssd_one (psd_ret ppd_non))))
def t_law_refused : TSD := sSeq (sSet .va 2 (dC (.bl false))) (sSeq (fun ρ c N R => xIf (bT (dBin eqD (dVar 0) (dC (.int 0)))) (xCall 2 spx_could (dCons (dVar 1) (dCons (dC (.int 1)) dNil))) (xCall 3 spx_sure (dCons (dVar 1) (dCons (dC (.int 0)) (dCons (dC (.int 1)) dNil)))) ρ c fun ρ' c' => sSet .va 2 (dC (.bl true)) ρ' c' N R)
  (sRet (dVar 2)))
theorem hs_law_refused (ds : List D) (c : Nat) (Q : D → Nat → Prop) (h : sp_law_refused ds c Q) : t_law_refused (startR ["_law_door_so", "_law_piece_so", "_law_caught_so"] ds) c (fun _ c' => Q .non c') Q := by
  obtain ⟨n, m, L, G, d, door, rfl, pc, ok, hd, al, h1⟩ := h
  simp only [t_law_refused, startR, sSeq, sSet, sRet, xIf, xCall, bT, dBin, dFnN, dCons, dNil, dVar, dC, Kd.sl, List.set, List.map, List.length, List.replicate, List.append, HAppend.hAppend, Append.append, List.getElem?_cons_zero, List.getElem?_cons_succ, Option.some.injEq, Sl.va.injEq, exists_eq_left', eqD_int]
  refine ⟨_, rfl, ?_⟩
  rcases hd with rfl | rfl
  · simp
    exact ⟨n, m, L, G, d, _, rfl, pc, ok, al, h1⟩
  · simp
    exact ⟨n, m, L, G, d, _, _, rfl, pc, ok, al, h1⟩
theorem nx_refused : FnScope ["_law_door_so", "_law_piece_so", "_law_caught_so"] ["_law_door_so", "_law_piece_so"] (defScope (top 76)) := ⟨rfl, rfl, rfl, by decide +kernel, rfl, by decide +kernel, by decide +kernel⟩
theorem d_law_refused (F : Fr0 K mg) (U : ExU K mg C) (D : Dfn K mg "_law_refused" 76 ["_law_door_so", "_law_piece_so"]) {j1 j2 : Nat} (x_c : KnX P w K mg base C "could_change" j1 ["piece", "tick"] spx_could) (l1 : j1 ≤ k) (x_s : KnX P w K mg base C "sure_change" j2 ["piece", "first", "last"] spx_sure) (l2 : j2 ≤ k) :
    Kn P w K mg base "_law_refused" (k + 1) ["_law_door_so", "_law_piece_so"] sp_law_refused :=
  have nd := nx_refused.nd
  knD D nx_refused t_law_refused (fun ds c Q _ h => hs_law_refused ds c Q h)
    (fun f cdv A outer s H E τ G c hr => pssd_cons (psd_set (k := .va) (i := 2) nd rfl (by first | exact Or.inl rfl | exact Or.inr rfl) ppd_bl)
      (pssd_cons (psd_tryX rfl rfl U (by rfl) (fun W pn xe tk => pxss_one (pxs_if (Cmp.pt (c_eq hr.units (pb_of (ppd_var (pv 0))) (pb_of ppd_int)))
        (pxss_one (pxs_expr (pxd_call tk x_c rfl hr (by omega) (by rfl) (pad_cons (ppd_var (pv 1)) (pad_cons ppd_int pad_nil))))) (pxss_one (pxs_expr (pxd_call tk x_s rfl hr (by omega) (by rfl) (pad_cons (ppd_var (pv 1)) (pad_cons ppd_int (pad_cons ppd_int pad_nil))))))))
      (fun a oe pn => pssd_one (psd_set (k := .va) (i := 2) nd rfl (by first | exact Or.inl rfl | exact Or.inr rfl) ppd_bl)))
      (pssd_one (psd_ret (ppd_var (pv 2))))))
end
end Pd
end
section
set_option Elab.async false
set_option linter.all false
set_option maxRecDepth 100000
set_option maxHeartbeats 4000000
/-! PV2: the draws: the one object of draws as a list of one's own. -/
namespace Pd
open PySem PyProof.Rows L2 RZ Ma Mc
open PySem.Spec hiding Row
/-- blocks that end with a return: what is returned, with the slots -/
abbrev TQD := Rho → Nat → (D → Nat → Rho → Prop) → Prop
def upQ (K : PySem.W.Frag) (τ : Option Addr) (G0 H0 : Hp) (c0 : Nat) (a0 : Addr) (t : TQD) : TS := fun E σ H => ∃ (G : Hp) (ρ : Rho) (c : Nat) (R : D → Nat → Rho → Prop), W0 τ G0 H0 c0 ∧ Step τ G0 H0 c0 G H c ∧ EnvR K τ H0 G H σ ρ ∧ σ[0]? = some (some (.ref a0)) ∧ t ρ c R ∧
  (∀ d c' v ρ' σ' G' H', R d c' ρ' → Step τ G0 H0 c0 G' H' c' → EnvR K τ H0 G' H' σ' ρ' → σ'[0]? = some (some (.ref a0)) → Rep K τ G' v d → E.rt v H')
abbrev PQs (X : Cx) (τ : Option Addr) (G0 H0 : Hp) (c0 : Nat) (a0 : Addr) (sts : List Stmt) (t : TQD) : Prop := PSs X sts (upQ X.K τ G0 H0 c0 a0 t)
@[simp] def qRet (te : TD) : TQD := fun ρ c R => te ρ c fun d c1 => R d c1 ρ
@[simp] def qSet (i : Nat) (te : TD) (u : TQD) : TQD := fun ρ c R => te ρ c fun d c1 => u (ρ.set i (.va d)) c1 R
@[simp] def qPut (ti te : TD) (u : TQD) : TQD := fun ρ c R => ∃ l, ρ[0]? = some (.ow l) ∧ te ρ c fun d c1 => ti ρ c1 fun k c2 => ∃ n j, k = .int n ∧ ixN l.length n = some j ∧ u (ρ.set 0 (.ow (l.set j d))) c2 R
@[simp] def qIf (tt : TTD) (u v : TQD) : TQD := fun ρ c R => tt ρ c fun k c1 => if k = true then u ρ c1 R else v ρ c1 R
section
variable {X : Cx} {τ : Option Addr} {G0 H0 : Hp} {c0 : Nat} {a0 : Addr} {st : Stmt} {a rest : List Stmt} {e cc : Expr} {pos : Pos} {ti te : TD} {tt : TTD} {u v : TQD}
theorem pqs_ret (h : PP X e te) : PQs X τ G0 H0 c0 a0 [.Return (some e) pos] (qRet te) := pss_imp (pss_one (ps_ret h)) fun D σ H ⟨G, ρ, c, R, w, s, en, z, p, r⟩ =>
  ⟨τ, H0, G, ρ, c, _, s.w0 w, en, p, fun d c' v G' H' p' s' r' => r d c' v ρ σ G' H' p' (s.trans w s') (en.step s') z r'⟩
theorem pqs_set {i : Nat} {x : Str} {pos' : Pos} (hN : X.N.Nodup) (hi : X.N[i]? = some x) (h0 : i ≠ 0) (hx : Loc X.env.scope x) (he : PP X e te) (h2 : PQs X τ G0 H0 c0 a0 rest u) (hs : swapsWith e (some (.Name x pos')) pos.line X.env = pure false := by rfl) (hf : X.fn x = true ∨ X.env.scope.names.lookup x = some .local := by first | exact .inl rfl | exact .inr rfl | assumption) :
    PQs X τ G0 H0 c0 a0 (.Assign [.Name x pos'] e pos :: rest) (qSet i te u) := pss_imp (pss_cons (ps_set hN hi hx he hs hf) h2) fun D σ H ⟨G, ρ, c, R, w, s, en, z, p, r⟩ =>
  ⟨τ, H0, G, ρ, c, _, s.w0 w, en, p, fun d c' v G' H' p' s' r' => ⟨G', ρ.set i (.va d), c', R, w, s.trans w s', (en.step s').setva r', by rw [List.getElem?_set_ne h0]; exact z, p', r⟩⟩
theorem pqs_put {x ix : Expr} {tpos : Pos} (hx : PE X x (tVar 0)) (hi : PP X ix ti) (he : PP X e te) (h2 : PQs X τ G0 H0 c0 a0 rest u)
    (ha : ∀ v, assign (.Subscript x ix tpos) X.env v = (do
      let ov ← holding [v] (eval x X.env)
      let iv ← holding [v, ov] (eval ix X.env)
      standAt tpos
      holding [v, ov, iv] (setItem ov iv v)
      release [v, ov, iv] []) := by intro _; rfl)
    (hs : swapsWithSole [.Subscript x ix tpos] e pos.line X.env = pure false := by rfl) (hw : swappedStores [.Subscript x ix tpos] e X.env = pure none := by rfl)
    (h1 : (assignEach [.Subscript x ix tpos] X.env).map (·.2) = [assign (.Subscript x ix tpos) X.env] := by rfl) : PQs X τ G0 H0 c0 a0 (.Assign [.Subscript x ix tpos] e pos :: rest) (qPut ti te u) :=
  pss_imp (pss_cons (ps_asg he (pg_sub hx hi set_list ha) hs hw h1) h2) fun D σ H ⟨G, ρ, c, R, w, s, en, z0, ⟨l, hl, p⟩, r⟩ => ⟨τ, H0, G, ρ, c, _, s.w0 w, en, p, fun d c1 v G1 H1 p1 s1 r1 => by
    have en1 := en.step s1
    obtain ⟨a, vs, hs, ha, rr, g, z, n⟩ := en1.ow 0 l hl
    refine ⟨_, hs, τ, H0, G1, ρ, c1, _, (s.trans w s1).w0 w, en1, p1, fun k c2 u G2 H2 ⟨nn, j, hk, hj, p2⟩ s2 r2 => ?_⟩
    subst hk
    cases (show Rep X.K τ G2 _ _ from r2)
    have ha2 := s2.hh _ _ ha n
    have g2 := s2.gn a g (.l ha)
    refine ⟨a, vs, nn, j, rfl, rfl, ha2, by rw [rr.len]; exact hj, ?_⟩
    exact ⟨G2, _, c2, R, w, ((s.trans w s1).trans w s2).write g2 z n, (en1.step s2).write hl rfl hs rfl (.inl ⟨_, _, rfl, rfl, (rr.mono s2.gg).set ((show Rep X.K τ G1 v d from r1).mono s2.gg) j⟩), z0, p2, r⟩⟩
theorem pqs_if (hc : PTD X cc tt) (ha : PQs X τ G0 H0 c0 a0 a u) (hb : PQs X τ G0 H0 c0 a0 rest v) : PQs X τ G0 H0 c0 a0 (.If cc a [] pos :: rest) (qIf tt u v) := pss_imp (pss_cons (ps_if hc ha pss_nil) hb) fun D σ H ⟨G, ρ, c, R, w, s, en, z, p, r⟩ =>
  ⟨τ, H0, G, ρ, c, _, s.w0 w, en, p, fun k c1 G1 H1 p1 s1 => by
    cases k with
    | true => exact iteT ⟨G1, ρ, c1, R, w, s.trans w s1, en.step s1, z, p1, r⟩
    | false => exact iteF ⟨G1, ρ, c1, R, w, s.trans w s1, en.step s1, z, p1, r⟩⟩
end
def t_take : TQD := qIf (bT (dBin gtD (dBin ixD (dOwn 0) (dC (.int 0))) (dC (.int 0)))) (qSet 2 (dBin modD (dCall int1 (dCons (dBin ixD (dOwn 0) (dC (.int 0))) dNil)) (dVar 1))
  (qPut (dC (.int 0)) (dBin fdivD (dBin ixD (dOwn 0) (dC (.int 0))) (dVar 1))
  (qRet (dVar 2))))
  (qPut (dC (.int 2)) (dBin addD (dBin ixD (dOwn 0) (dC (.int 2))) (dC (.int 1)))
  (qSet 3 (dBin modD (dCall int1 (dCons (dBin mulD (dBin addD (dBin ixD (dOwn 0) (dC (.int 1))) (dBin mulD (dC (.int 48271)) (dBin ixD (dOwn 0) (dC (.int 2))))) (dBin addD (dC (.int 39373)) (dBin ixD (dOwn 0) (dC (.int 2))))) dNil)) (dC (.int 2147483647)))
  (qSet 4 (dBin addD (dBin modD (dCall int1 (dCons (dVar 3) dNil)) (dC (.int 40009))) (dC (.int 7)))
  (qSet 5 (dBin modD (dCall int1 (dCons (dBin mulD (dBin addD (dBin addD (dVar 3) (dBin ixD (dOwn 0) (dC (.int 2)))) (dBin fdivD (dBin ixD (dOwn 0) (dC (.int 1))) (dC (.int 1000003)))) (dVar 4)) dNil)) (dC (.int 2147483629)))
  (qRet (dBin modD (dCall int1 (dCons (dBin fdivD (dBin modD (dCall int1 (dCons (dBin addD (dBin mulD (dVar 5) (dC (.int 48271))) (dVar 3)) dNil)) (dC (.int 2147483587))) (dC (.int 64))) dNil)) (dVar 1)))))))
theorem nx_take : FnScope ["_law_tin", "_law_below_so", "_law_drawn", "_law_once_so", "_law_wide_so", "_law_twice_so"] ["_law_tin", "_law_below_so"] (defScope (top 44)) := ⟨rfl, rfl, rfl, by decide +kernel, rfl, by decide +kernel, by decide +kernel⟩
theorem b_take {P : Program} {w : World} {K : PySem.W.Frag} {mg : Str → Option Value} {base : Heap} (F : Fr0 K mg) (f : Addr) (cdv : Value) (A : Around) (outer : List Env) (s : Shared) (H : Hp) (E : XK) (τ : Option Addr) (G0 H0 : Hp) (c : Nat) (a0 : Addr) :
    PQs (cxOf CX0 P w K mg base ["_law_tin", "_law_below_so", "_law_drawn", "_law_once_so", "_law_wide_so", "_law_twice_so"] "_law_take" (defScope (top 44)) f cdv A outer s H E).nox τ G0 H0 c a0 (defBody (top 44)) t_take :=
  have nd := nx_take.nd
  (pqs_if (Cmp.pt (c_gt (ppd_ix (pbd_own (pv 0)) ppd_int) ppd_int)) (pqs_set (i := 2) nd rfl (by decide) (by first | exact Or.inl rfl | exact Or.inr rfl) (ppd_mod (ppd_intc (by rfl) F.int (pad_cons (ppd_ix (pbd_own (pv 0)) ppd_int) pad_nil)) (ppd_var (pv 1)))
      (pqs_put (pv 0) ppd_int (ppd_fdiv (ppd_ix (pbd_own (pv 0)) ppd_int) (ppd_var (pv 1)))
      (pqs_ret (ppd_var (pv 2)))))
      (pqs_put (pv 0) ppd_int (ppd_add (pb_of (ppd_ix (pbd_own (pv 0)) ppd_int)) (pb_of ppd_int))
      (pqs_set (i := 3) nd rfl (by decide) (by first | exact Or.inl rfl | exact Or.inr rfl) (ppd_mod (ppd_intc (by rfl) F.int (pad_cons (ppd_mul (ppd_add (pb_of (ppd_ix (pbd_own (pv 0)) ppd_int)) (pb_of (ppd_mul ppd_int (ppd_ix (pbd_own (pv 0)) ppd_int)))) (ppd_add (pb_of ppd_int) (pb_of (ppd_ix (pbd_own (pv 0)) ppd_int)))) pad_nil)) ppd_int)
      (pqs_set (i := 4) nd rfl (by decide) (by first | exact Or.inl rfl | exact Or.inr rfl) (ppd_add (pb_of (ppd_mod (ppd_intc (by rfl) F.int (pad_cons (ppd_var (pv 3)) pad_nil)) ppd_int)) (pb_of ppd_int))
      (pqs_set (i := 5) nd rfl (by decide) (by first | exact Or.inl rfl | exact Or.inr rfl) (ppd_mod (ppd_intc (by rfl) F.int (pad_cons (ppd_mul (ppd_add (pb_of (ppd_add (pb_of (ppd_var (pv 3))) (pb_of (ppd_ix (pbd_own (pv 0)) ppd_int)))) (pb_of (ppd_fdiv (ppd_ix (pbd_own (pv 0)) ppd_int) ppd_int))) (ppd_var (pv 4))) pad_nil)) ppd_int)
      (pqs_ret (ppd_mod (ppd_intc (by rfl) F.int (pad_cons (ppd_fdiv (ppd_mod (ppd_intc (by rfl) F.int (pad_cons (ppd_add (pb_of (ppd_mul (ppd_var (pv 5)) ppd_int)) (pb_of (ppd_var (pv 3)))) pad_nil)) ppd_int) ppd_int) pad_nil)) (ppd_var (pv 1)))))))))
theorem cmul_of {i j : Int} (a b : Nat) (h1 : i.natAbs < 2 ^ a) (h2 : j.natAbs < 2 ^ b) (h : (decide (0 < a) && decide (0 < b) && decide (a + b < 900000)) = true) : CMulW i j := by
  simp only [Bool.and_eq_true, decide_eq_true_eq] at h
  exact cmul_sm h1 h2 h.1.1 h.1.2 (Nat.lt_of_lt_of_le h.2 (by decide))
theorem cdiv_sm {i j : Int} (h0 : j ≠ 0) (h : j.natAbs < 2 ^ 62) : CDivB i j := ⟨h0, Nat.lt_of_lt_of_le ((Nat.log2_lt (Int.natAbs_ne_zero.mpr h0)).mpr h) (by decide)⟩
/-- what a draw computes -/
theorem hs_take {x y z : Int} {n c : Nat} (hx : 0 ≤ x) (hy : 0 ≤ y) (hy2 : y < 2 ^ 62) (hz : 0 ≤ z) (hzc : z ≤ c) (hc : c ≤ 100000) (hn : 0 < n) (hn2 : n ≤ 1000) (R : D → Nat → Rho → Prop)
    (h : ∀ (k : Nat) (x' z' : Int) (ρ : Rho), k < n → 0 ≤ x' → 0 ≤ z' → z' ≤ c + 1 → ρ[0]? = some (.ow [.int x', .int y, .int z']) → R (.int k) c ρ) :
    t_take [.ow [.int x, .int y, .int z], .va (.int n), .no, .no, .no, .no] c R := by
  have n0 : ((n : Nat) : Int) ≠ 0 := by omega
  have nb : ((n : Nat) : Int).natAbs < 2 ^ 62 := by
    rw [Int.natAbs_natCast]
    exact Nat.lt_of_le_of_lt hn2 (by decide)
  have modk : ∀ v : Int, ∃ k : Nat, v.fmod (n : Int) = k ∧ k < n := fun v => by
    have h1 := Int.fmod_nonneg_of_pos v (b := (n : Int)) (by omega)
    have h2 := Int.fmod_lt_of_pos v (b := (n : Int)) (by omega)
    exact ⟨(v.fmod n).toNat, by omega, by omega⟩
  have at0 : atI [D.int x, D.int y, D.int z] 0 = some (.int x) := rfl
  have at1' : atI [D.int x, D.int y, D.int z] 1 = some (.int y) := rfl
  have at2 : atI [D.int x, D.int y, D.int z] 2 = some (.int z) := rfl
  have ix0 : ixN 3 0 = some 0 := rfl
  have ix2 : ixN 3 2 = some 2 := rfl
  have bt1 : atI [D.int x, D.int y, D.int (z + 1)] 1 = some (.int y) := rfl
  have bt2 : atI [D.int x, D.int y, D.int (z + 1)] 2 = some (.int (z + 1)) := rfl
  simp only [t_take, qIf, bT, dBin, dOwn, dC, ixD, gtD, List.getElem?_cons_zero, Option.some.injEq, Sl.ow.injEq, exists_eq_left', at0]
  refine ⟨_, rfl, ?_⟩
  by_cases hx0 : 0 < x
  · obtain ⟨k, hk, hk2⟩ := modk x
    rw [decide_eq_true hx0]
    simp only [if_true, qSet, qPut, dBin, dCall, dCons, dNil, dOwn, dC, dVar, ixD, int1, modD, Kd.sl, List.set, List.getElem?_cons_zero, List.getElem?_cons_succ, Option.some.injEq, Sl.ow.injEq, Sl.va.injEq, exists_eq_left', at0, fdivD]
    refine ⟨n0, cdiv_sm n0 nb, _, 0, rfl, rfl, ?_⟩
    rw [hk]
    simp only [qRet, dVar, List.length, List.getElem?_cons_zero, List.getElem?_cons_succ, Option.some.injEq, Sl.ow.injEq, Sl.va.injEq, exists_eq_left', List.set]
    refine h k _ z _ hk2 ?_ hz (by omega) rfl
    rw [Int.fdiv_eq_ediv_of_nonneg _ (by omega)]
    exact Int.ediv_nonneg hx (by omega)
  · rw [decide_eq_false hx0]
    have zb : (z + 1).natAbs < 2 ^ 20 := by omega
    have yb : y.natAbs < 2 ^ 62 := by omega
    simp only [Bool.false_eq_true, if_false, qSet, qPut, dBin, dCall, dCons, dNil, dOwn, dC, dVar, ixD, int1, modD, addD, Kd.sl, List.set, List.length, List.getElem?_cons_zero, List.getElem?_cons_succ, Option.some.injEq, Sl.ow.injEq, Sl.va.injEq, D.int.injEq, exists_eq_left', at2]
    refine ⟨_, 2, rfl, rfl, ?_⟩
    simp only [List.set, qSet, qPut, dBin, dCall, dCons, dNil, dOwn, dC, dVar, ixD, int1, modD, addD, mulD, fdivD, Kd.sl, List.getElem?_cons_zero, List.getElem?_cons_succ, Option.some.injEq, Sl.ow.injEq, Sl.va.injEq, exists_eq_left', bt1, bt2]
    have m1 : (48271 * (z + 1)).natAbs < 2 ^ 40 := by omega
    have m2 : (y + 48271 * (z + 1)).natAbs < 2 ^ 63 := by omega
    have m3 : (39373 + (z + 1)).natAbs < 2 ^ 21 := by omega
    have f1 : ∀ (v m : Int), 0 < m → 0 ≤ v.fmod m ∧ v.fmod m < m := fun v m hm => ⟨Int.fmod_nonneg_of_pos v hm, Int.fmod_lt_of_pos v hm⟩
    refine ⟨cmul_of 20 20 (by decide) zb rfl, cmul_of 63 21 m2 m3 rfl, by decide, by decide, ?_⟩
    generalize hA : ((y + 48271 * (z + 1)) * (39373 + (z + 1))).fmod 2147483647 = A
    have bA : 0 ≤ A ∧ A < 2147483647 := by rw [← hA]; exact f1 _ _ (by decide)
    have bB := f1 A 40009 (by decide)
    generalize A.fmod 40009 = B at *
    have bY : 0 ≤ y.fdiv 1000003 ∧ y.fdiv 1000003 ≤ y := by
      rw [Int.fdiv_eq_ediv_of_nonneg _ (by decide)]
      exact ⟨Int.ediv_nonneg hy (by decide), Int.ediv_le_self _ hy⟩
    generalize y.fdiv 1000003 = Y at *
    refine ⟨cdiv_sm (by decide) (by decide), cmul_of 63 20 (by omega) (by omega) rfl, by decide, ?_⟩
    have bC := f1 ((A + (z + 1) + Y) * (B + 7)) 2147483629 (by decide)
    generalize ((A + (z + 1) + Y) * (B + 7)).fmod 2147483629 = Cc at *
    simp only [qRet, dBin, dCall, dCons, dNil, dC, dVar, int1, modD, addD, mulD, fdivD, List.getElem?_cons_zero, List.getElem?_cons_succ, Option.some.injEq, Sl.ow.injEq, Sl.va.injEq, exists_eq_left']
    refine ⟨cmul_of 40 20 (by omega) (by decide) rfl, by decide, cdiv_sm (by decide) (by decide), n0, ?_⟩
    obtain ⟨k, hk, hk2⟩ := modk (((Cc * 48271 + A).fmod 2147483587).fdiv 64)
    rw [hk]
    exact h k x (z + 1) _ hk2 hx (by omega) (by omega) rfl
/-- THE DRAW: any number below -/
theorem d_law_take {P : Program} {w : World} {K : PySem.W.Frag} {mg : Str → Option Value} {base : Heap} (F : Fr0 K mg) (D : Dfn K mg "_law_take" 44 ["_law_tin", "_law_below_so"]) : Kn P w K mg base "_law_take" 1 ["_law_tin", "_law_below_so"] sp_law_take := by
  obtain ⟨f, fd, Fn, hm, hb'⟩ := D
  refine ⟨f, fd, Fn.ok nx_take (fun vs H Q E ⟨τ, G, ds, c, P, w0, r, hl, _⟩ => r.len.trans hl) fun cdv A outer s H vs Q E hr ⟨τ, G, ds, c, P', w0, r, hl, ⟨n, e, h0, hn, hc, hP⟩, q⟩ => ?_, hm, Fn.kp, hb'⟩
  subst e
  cases r with
  | cons r1 r2 =>
    cases r2 with
    | cons r2 r3 =>
      cases r3
      cases r2
      cases r1 with
      | @tin a ha =>
        obtain ⟨x, y, z, e1, hx, hy, hy2, hz, hzc⟩ := w0.tn a ha
        have ga := w0.tg a ha
        have w1 : W0 none G (fun b => if b = a then none else H b) c := ⟨fun b o h => by
          show (if b = a then none else H b) = some o
          rw [if_neg (fun z => by rw [z, ga] at h; cases h)]
          exact w0.le b o h, (fun _ z => nomatch z), (fun _ z => nomatch z)⟩
        have s1 : Step none G (fun b => if b = a then none else H b) c G H c := ⟨fun _ _ h => h, w0.le, fun b o h _ => by
          by_cases e : b = a
          · rw [if_pos e] at h; cases h
          · rw [if_neg e] at h; exact h, fun _ h _ => h, fun _ z => nomatch z⟩
        refine ⟨_, b_take F f cdv A outer s H E none G (fun b => if b = a then none else H b) c a, G, [.ow [.int x, .int y, .int z], .va (.int n), .no, .no, .no, .no], c,
          (fun d c' ρ => ∃ (k : Nat) (x' z' : Int), d = .int k ∧ k < n ∧ 0 ≤ x' ∧ 0 ≤ z' ∧ z' ≤ c + 1 ∧ ρ[0]? = some (.ow [.int x', .int y, .int z'])), w1, s1, ?_, rfl, hs_take hx hy hy2 hz hzc hc h0 hn _ fun k x' z' ρ a1 a2 a3 a4 a5 => ⟨k, x', z', rfl, a1, a2, a3, a4, a5⟩, ?_⟩
        · refine ⟨rfl, fun i d h => ?_, fun i l h => ?_, fun i l h => ?_, fun i j s t p h1 h2 o1 o2 _ _ => ?_⟩
          · match i, h with
            | 1, h => cases h; exact ⟨_, rfl, .int _⟩
            | 0, h => cases h
            | 2, h => cases h
            | 3, h => cases h
            | 4, h => cases h
            | 5, h => cases h
            | i + 6, h => simp at h
          · match i, h with
            | 0, h => cases h; exact ⟨a, _, rfl, e1, .cons (.int _) (.cons (.int _) (.cons (.int _) .nil)), ga, if_pos rfl, fun z => nomatch z⟩
            | 1, h => cases h
            | 2, h => cases h
            | 3, h => cases h
            | 4, h => cases h
            | 5, h => cases h
            | i + 6, h => simp at h
          · match i, h with
            | 0, h => cases h
            | 1, h => cases h
            | 2, h => cases h
            | 3, h => cases h
            | 4, h => cases h
            | 5, h => cases h
            | i + 6, h => simp at h
          · have own0 : ∀ (i : Nat) (s : Sl), ([.ow [.int x, .int y, .int z], .va (.int n), .no, .no, .no, .no] : Rho)[i]? = some s → s.own = true → i = 0 := fun i s h o => by
              match i, h with
              | 0, h => rfl
              | 1, h => cases h; cases o
              | 2, h => cases h; cases o
              | 3, h => cases h; cases o
              | 4, h => cases h; cases o
              | 5, h => cases h; cases o
              | i + 6, h => simp at h
            rw [own0 i s h1 o1, own0 j t h2 o2]
        · rintro d c' v ρ' σ' G' H' ⟨k, x', z', rfl, hk, hx', hz', hzc', hρ⟩ s' en' h0' r'
          obtain ⟨p, vs, hp, hpl, rp, gp, _, _⟩ := en'.ow 0 _ hρ
          rw [h0'] at hp
          cases hp
          have ev := Reps.ints (ns := [x', y, z']) rp
          subst ev
          cases r'
          refine q (.int k) (c + 1) (.int k) G' H' (hP k hk) ⟨s'.gg, s'.gh, fun b o h nb => ?_, fun b h k => ?_, fun b hb => ?_⟩ (.int _)
          · refine s'.hh b o ?_ (fun z => nomatch z)
            show (if b = a then none else H b) = some o
            rw [if_neg (fun z => nb (by rw [z]; exact ha))]
            exact h
          · by_cases e : b = a
            · rw [e]; exact gp
            · obtain ⟨o, ho, hn⟩ := k
              refine s'.gn b h ⟨o, ?_, hn⟩
              show (if b = a then none else H b) = some o
              rw [if_neg e]; exact ho
          · rw [ha] at hb
            cases hb
            exact ⟨x', y, z', hpl, hx', hy, hy2, hz', by push_cast; exact hzc'⟩
end Pd
end
section
set_option Elab.async false
set_option linter.all false
set_option maxRecDepth 100000
set_option maxHeartbeats 4000000
/-! PV3: lists in a list of one's own. -/
namespace Pd
open PySem PyProof.Rows L2 RZ Ma Mc
open PySem.Spec hiding Row
structure Nst (K : PySem.W.Frag) (τ : Option Addr) (H0 G H : Hp) (p : Addr) (qs : List Addr) (M : List (List D)) : Prop where
  hp : H p = some (.lst (qs.map V.ref))
  gp : G p = none
  zp : H0 p = none
  np : τ ≠ some p
  nd : qs.Nodup
  pq : p ∉ qs
  len : qs.length = M.length
  row : ∀ (j : Nat) (q : Addr) (r : List D), qs[j]? = some q → M[j]? = some r → ∃ vs, H q = some (.lst vs) ∧ Reps K τ G vs r ∧ G q = none ∧ H0 q = none ∧ τ ≠ some q
section
variable {K : PySem.W.Frag} {τ : Option Addr} {H0 G H G' H' : Hp} {p : Addr} {qs : List Addr} {M : List (List D)} {c c' : Nat} {σ : L2.St} {ρ : Rho} {i : Nat}
theorem Nst.step (n : Nst K τ H0 G H p qs M) (s : Step τ G H c G' H' c') : Nst K τ H0 G' H' p qs M :=
  ⟨s.hh _ _ n.hp n.np, s.gn p n.gp (.l n.hp), n.zp, n.np, n.nd, n.pq, n.len, fun j q r h1 h2 => by
    obtain ⟨vs, h, rr, g, z, nn⟩ := n.row j q r h1 h2
    exact ⟨vs, s.hh _ _ h nn, rr.mono s.gg, s.gn q g (.l h), z, nn⟩⟩
theorem Nst.zz {H1 : Hp} (z : ∀ a, H1 a = none → H0 a = none) (n : Nst K τ H1 G H p qs M) : Nst K τ H0 G H p qs M :=
  ⟨n.hp, n.gp, z _ n.zp, n.np, n.nd, n.pq, n.len, fun j q r h1 h2 => by
    obtain ⟨vs, h, rr, g, zq, nn⟩ := n.row j q r h1 h2
    exact ⟨vs, h, rr, g, z _ zq, nn⟩⟩
theorem Nst.mem (n : Nst K τ H0 G H p qs M) {q : Addr} (h : q ∈ qs) : ∃ vs, H q = some (.lst vs) ∧ G q = none ∧ H0 q = none ∧ τ ≠ some q := by
  obtain ⟨j, hj, e⟩ := List.mem_iff_getElem.mp h
  have hl := n.len
  obtain ⟨vs, a, _, b, z, nn⟩ := n.row j q (M[j]'(by omega)) (by rw [List.getElem?_eq_getElem hj, e]) (List.getElem?_eq_getElem (by omega))
  exact ⟨vs, a, b, z, nn⟩
/-- an entry is written -/
theorem Nst.put (n : Nst K τ H0 G H p qs M) {j k : Nat} {q : Addr} {r : List D} {vs : List V} {v : V} {d : D} (h1 : qs[j]? = some q) (h2 : M[j]? = some r) (hv : H q = some (.lst vs)) (rr : Reps K τ G vs r) (rv : Rep K τ G v d) :
    Nst K τ H0 G (upd H q (.lst (vs.set k v))) p qs (M.set j (r.set k d)) := by
  have hq : q ∈ qs := List.mem_of_getElem? h1
  have npq : p ≠ q := fun z => n.pq (by rw [z]; exact hq)
  refine ⟨by rw [upd_ne npq]; exact n.hp, n.gp, n.zp, n.np, n.nd, n.pq, by rw [List.length_set]; exact n.len, fun j' q' r' a1 a2 => ?_⟩
  by_cases e : j' = j
  · subst e
    rw [h1] at a1
    cases a1
    have hl : j' < M.length := (List.getElem?_eq_some_iff.mp h2).1
    rw [List.getElem?_set_self hl] at a2
    cases a2
    obtain ⟨_, _, _, g, z, nn⟩ := n.row j' q r h1 h2
    exact ⟨_, upd_same, rr.set rv k, g, z, nn⟩
  · rw [List.getElem?_set_ne (Ne.symm e)] at a2
    obtain ⟨us, b1, b2, g, z, nn⟩ := n.row j' q' r' a1 a2
    have nq : q' ≠ q := fun z => by
      rw [z] at a1
      have hj' := (List.getElem?_eq_some_iff.mp a1)
      have hj := (List.getElem?_eq_some_iff.mp h1)
      exact e ((List.getElem_inj (h₀ := hj'.1) (h₁ := hj.1) n.nd).mp (hj'.2.trans hj.2.symm))
    exact ⟨us, by rw [upd_ne nq]; exact b1, b2, g, z, nn⟩
/-- the ghost with the lists -/
def plus (G H : Hp) (p : Addr) (qs : List Addr) : Hp := fun b => if b = p ∨ b ∈ qs then H b else G b
theorem plus_of {b : Addr} (h : b = p ∨ b ∈ qs) : plus G H p qs b = H b := if_pos h
theorem plus_ne {b : Addr} (h : ¬ (b = p ∨ b ∈ qs)) : plus G H p qs b = G b := if_neg h
theorem Nst.out (n : Nst K τ H0 G H p qs M) {b : Addr} (h : b = p ∨ b ∈ qs) : G b = none ∧ H0 b = none ∧ τ ≠ some b ∧ ∃ vs, H b = some (.lst vs) := by
  rcases h with rfl | h
  · exact ⟨n.gp, n.zp, n.np, _, n.hp⟩
  · obtain ⟨vs, a, g, z, nn⟩ := n.mem h
    exact ⟨g, z, nn, vs, a⟩
theorem plus_le (n : Nst K τ H0 G H p qs M) : ∀ a o, G a = some o → plus G H p qs a = some o := fun a o h => by
  rw [plus_ne (fun z => by rw [(n.out z).1] at h; cases h)]; exact h
theorem plus_w (w : W0 τ G H c) (n : Nst K τ H0 G H p qs M) : W0 τ (plus G H p qs) H c := ⟨fun a o h => by
  by_cases z : a = p ∨ a ∈ qs
  · rw [plus_of z] at h; exact h
  · rw [plus_ne z] at h; exact w.le a o h, w.tn, fun a h => by
  rw [plus_ne (fun z => (n.out z).2.2.1 h)]; exact w.tg a h⟩
theorem rows_rep {G1 : Hp} : ∀ {qs : List Addr} {M : List (List D)}, qs.length = M.length → (∀ (j : Nat) (q : Addr) (r : List D), qs[j]? = some q → M[j]? = some r → ∃ vs, G1 q = some (.lst vs) ∧ Reps K τ G1 vs r) → Reps K τ G1 (qs.map V.ref) (M.map D.lst)
  | [], [], _, _ => .nil
  | q :: qs, r :: M, h, k => by
    obtain ⟨vs, a, b⟩ := k 0 q r rfl rfl
    exact .cons (.lst a b) (rows_rep (by simpa using h) fun j q' r' h1 h2 => k (j + 1) q' r' (by simpa using h1) (by simpa using h2))
theorem plus_rep (n : Nst K τ H0 G H p qs M) : Rep K τ (plus G H p qs) (.ref p) (.lst (M.map D.lst)) :=
  .lst ((plus_of (.inl rfl)).trans n.hp) (rows_rep n.len fun j q r h1 h2 => by
    obtain ⟨vs, a, b, _⟩ := n.row j q r h1 h2
    exact ⟨vs, (plus_of (.inr (List.mem_of_getElem? h1))).trans a, b.mono (plus_le n)⟩)
/-- the state: slot i holds the lists -/
structure NS (K : PySem.W.Frag) (τ : Option Addr) (H0 G H : Hp) (σ : L2.St) (ρ : Rho) (i : Nat) (p : Addr) (qs : List Addr) (M : List (List D)) : Prop where
  en : EnvR K τ H0 G H σ ρ
  no : ∀ (j : Nat) (s : Sl), ρ[j]? = some s → s.own = false
  ri : ρ[i]? = some .no
  si : σ[i]? = some (some (.ref p))
  ns : Nst K τ H0 G H p qs M
theorem NS.step (n : NS K τ H0 G H σ ρ i p qs M) (s : Step τ G H c G' H' c') : NS K τ H0 G' H' σ ρ i p qs M := ⟨n.en.step s, n.no, n.ri, n.si, n.ns.step s⟩
theorem NS.setva (n : NS K τ H0 G H σ ρ i p qs M) {j : Nat} (h : j ≠ i) {v : V} {d : D} (r : Rep K τ G v d) : NS K τ H0 G H (σ.set j (some v)) (ρ.set j (.va d)) i p qs M :=
  ⟨n.en.setva r, fun k s hk => by
    rcases getset hk with ⟨_, rfl⟩ | ⟨_, q⟩
    · rfl
    · exact n.no k s q, by rw [List.getElem?_set_ne h]; exact n.ri, by rw [List.getElem?_set_ne h]; exact n.si, n.ns⟩
/-- an environment without lists of one's own bears any write -/
theorem EnvR.free {H2 : Hp} (e : EnvR K τ H0 G H σ ρ) (no : ∀ (j : Nat) (s : Sl), ρ[j]? = some s → s.own = false) : EnvR K τ H0 G H2 σ ρ :=
  ⟨e.len, e.va, fun i l h => absurd (show true = false from no i _ h) (by decide), fun i l h => absurd (show true = false from no i _ h) (by decide), fun j k s t p h1 h2 o1 o2 _ _ => by rw [no j s h1] at o1; cases o1⟩
theorem NS.put (n : NS K τ H0 G H σ ρ i p qs M) {j k : Nat} {q : Addr} {r : List D} {vs : List V} {v : V} {d : D} (h1 : qs[j]? = some q) (h2 : M[j]? = some r) (hv : H q = some (.lst vs)) (rr : Reps K τ G vs r) (rv : Rep K τ G v d) :
    NS K τ H0 G (upd H q (.lst (vs.set k v))) σ ρ i p qs (M.set j (r.set k d)) := ⟨n.en.free n.no, n.no, n.ri, n.si, n.ns.put h1 h2 hv rr rv⟩
/-- .. read as data -/
theorem NS.data (n : NS K τ H0 G H σ ρ i p qs M) : EnvR K τ H0 (plus G H p qs) H σ (ρ.set i (.va (.lst (M.map D.lst)))) := by
  have own : ∀ (j : Nat) (s : Sl), (ρ.set i (.va (.lst (M.map D.lst))))[j]? = some s → s.own = false := fun j s h => by
    rcases getset h with ⟨_, rfl⟩ | ⟨_, q⟩
    · rfl
    · exact n.no j s q
  refine ⟨by simpa using n.en.len, fun j d h => ?_, fun j l h => absurd (show true = false from own j _ h) (by decide), fun j l h => absurd (show true = false from own j _ h) (by decide), fun j k s t q h1 h2 o1 o2 _ _ => by rw [own j s h1] at o1; cases o1⟩
  rcases getset h with ⟨rfl, e⟩ | ⟨nn, e⟩
  · cases e
    exact ⟨_, n.si, plus_rep n.ns⟩
  · obtain ⟨v, a, r⟩ := n.en.va j d e
    exact ⟨v, a, r.mono (plus_le n.ns)⟩
theorem EnvR.setno (e : EnvR K τ H0 G H σ ρ) (i : Nat) (x : Option V) : EnvR K τ H0 G H (σ.set i x) (ρ.set i .no) where
  len := by simpa using e.len
  va := fun j d' h => by
    rcases getset h with ⟨rfl, q⟩ | ⟨n, q⟩
    · cases q
    · obtain ⟨w, a, r'⟩ := e.va j d' q
      exact ⟨w, by rw [List.getElem?_set_ne (Ne.symm n)]; exact a, r'⟩
  ow := fun j l h => by
    rcases getset h with ⟨rfl, q⟩ | ⟨n, q⟩
    · cases q
    · obtain ⟨p, vs, a, r'⟩ := e.ow j l q
      exact ⟨p, vs, by rw [List.getElem?_set_ne (Ne.symm n)]; exact a, r'⟩
  od := fun j l h => by
    rcases getset h with ⟨rfl, q⟩ | ⟨n, q⟩
    · cases q
    · obtain ⟨p, a, r'⟩ := e.od j l q
      exact ⟨p, by rw [List.getElem?_set_ne (Ne.symm n)]; exact a, r'⟩
  ap := fun j k s t p h1 h2 o1 o2 a1 a2 => by
    rcases getset h1 with ⟨rfl, q⟩ | ⟨n1, q1⟩
    · subst q; cases o1
    · rcases getset h2 with ⟨rfl, q⟩ | ⟨n2, q2⟩
      · subst q; cases o2
      · rw [List.getElem?_set_ne (Ne.symm n1)] at a1
        rw [List.getElem?_set_ne (Ne.symm n2)] at a2
        exact e.ap j k s t p q1 q2 o1 o2 a1 a2
/-- data without lists -/
def Lf (d : D) : Prop := (∃ i, d = .int i) ∨ ∃ ns : List Int, d = .tup (ns.map D.int)
theorem reps_ints (G2 : Hp) : ∀ ns : List Int, Reps K τ G2 (ns.map V.int) (ns.map D.int)
  | [] => .nil
  | n :: ns => .cons (.int n) (reps_ints G2 ns)
/-- the lists are taken out of the ghost again -/
theorem minus {G1 H1 : Hp} {c1 : Nat} (w : W0 τ G H c) (n : Nst K τ H0 G H p qs M) (s : Step τ (plus G H p qs) H c G1 H1 c1) {v : V} {d : D} (r : Rep K τ G1 v d) (l : Lf d) : ∃ G2, Step τ G H c G2 H1 c1 ∧ Rep K τ G2 v d := by
  refine ⟨fun b => if b = p ∨ b ∈ qs then none else G1 b, ⟨fun a o h => ?_, fun a o h => ?_, s.hh, fun a h k => ?_, s.tn⟩, ?_⟩
  · have z : ¬ (a = p ∨ a ∈ qs) := fun z => by rw [(n.out z).1] at h; cases h
    rw [if_neg z]
    exact s.gg a o (plus_le n a o h)
  · by_cases z : a = p ∨ a ∈ qs
    · rw [if_pos z] at h; cases h
    · rw [if_neg z] at h; exact s.gh a o h
  · by_cases z : a = p ∨ a ∈ qs
    · rw [if_pos z]
    · rw [if_neg z]
      exact s.gn a (by rw [plus_ne z]; exact h) k
  · rcases l with ⟨i, rfl⟩ | ⟨ns, rfl⟩
    · cases r; exact .int i
    · cases r with
      | @tup a xs _ sq rr =>
        have e := rr.ints
        subst e
        refine .tup ?_ (reps_ints _ ns)
        have key : ∀ o, (∀ ws, o ≠ HO.lst ws) → G1 a = some o → (if a = p ∨ a ∈ qs then none else G1 a) = some o := fun o ho h => by
          rw [if_neg]
          · exact h
          · intro z
            obtain ⟨_, _, nt, ws, hw⟩ := n.out z
            have := s.hh _ _ hw nt
            rw [s.gh _ _ h] at this
            cases this
            exact ho _ rfl
        rcases sq with (sq | ⟨o, sq⟩) | sq
        · exact .inl (.inl (key _ (fun _ z => nomatch z) sq))
        · exact .inl (.inr ⟨o, key _ (fun _ z => nomatch z) sq⟩)
        · exact .inr sq
end
/-! expressions that may read the lists -/
abbrev TND := Rho → Nat → List (List D) → (D → Nat → Prop) → Prop
def upNE (K : PySem.W.Frag) (i : Nat) (t : TND) : TE := fun σ H Q => ∃ (τ : Option Addr) (H0 G : Hp) (ρ : Rho) (c : Nat) (p : Addr) (qs : List Addr) (M : List (List D)) (P : D → Nat → Prop), W0 τ G H c ∧ NS K τ H0 G H σ ρ i p qs M ∧ t ρ c M P ∧
  ∀ d c' v G' H', P d c' → Step τ G H c G' H' c' → Rep K τ G' v d → Q v H'
abbrev PN (X : Cx) (i : Nat) (e : Expr) (t : TND) : Prop := PE X e (upNE X.K i t)
@[simp] def eN (t : TD) : TND := fun ρ c _ P => t ρ c P
@[simp] def eR (i : Nat) (t : TD) : TND := fun ρ c M P => t (ρ.set i (.va (.lst (M.map D.lst)))) c fun d c' => Lf d ∧ P d c'
section
variable {X : Cx} {i : Nat} {e : Expr} {te : TD}
theorem pn_of (h : PP X e te) : PN X i e (eN te) := pe_imp h fun σ H Q ⟨τ, H0, G, ρ, c, p, qs, M, P, w, n, ht, q⟩ => ⟨τ, H0, G, ρ, c, P, w, n.en, ht, q⟩
theorem pn_read (h : PP X e te) : PN X i e (eR i te) := pe_imp h fun σ H Q ⟨τ, H0, G, ρ, c, p, qs, M, P, w, n, ht, q⟩ => ⟨τ, H0, plus G H p qs, _, c, _, plus_w w n.ns, n.data, ht, fun d c1 v G1 H1 ⟨l, p1⟩ s1 r1 => by
  obtain ⟨G2, s2, r2⟩ := minus w n.ns s1 r1 l
  exact q d c1 v G2 H1 p1 s2 r2⟩
end
/-! statements -/
abbrev TSN := Rho → Nat → List (List D) → (Rho → Nat → List (List D) → Prop) → (D → Nat → Prop) → Prop
def upN (K : PySem.W.Frag) (τ : Option Addr) (G0 H0 : Hp) (c0 : Nat) (i : Nat) (t : TSN) : TS := fun E σ H => ∃ (G : Hp) (ρ : Rho) (c : Nat) (p : Addr) (qs : List Addr) (M : List (List D)) (N : Rho → Nat → List (List D) → Prop) (R : D → Nat → Prop),
  W0 τ G0 H0 c0 ∧ Step τ G0 H0 c0 G H c ∧ NS K τ H0 G H σ ρ i p qs M ∧ t ρ c M N R ∧
  (∀ ρ' c' M' p' qs' σ' G' H', N ρ' c' M' → Step τ G0 H0 c0 G' H' c' → NS K τ H0 G' H' σ' ρ' i p' qs' M' → E.nx σ' H') ∧ (∀ d c' v G' H', R d c' → Step τ G0 H0 c0 G' H' c' → Rep K τ G' v d → E.rt v H')
abbrev PNS (X : Cx) (τ : Option Addr) (G0 H0 : Hp) (c0 : Nat) (i : Nat) (st : Stmt) (t : TSN) : Prop := PS X st (upN X.K τ G0 H0 c0 i t)
abbrev PNSs (X : Cx) (τ : Option Addr) (G0 H0 : Hp) (c0 : Nat) (i : Nat) (sts : List Stmt) (t : TSN) : Prop := PSs X sts (upN X.K τ G0 H0 c0 i t)
@[simp] def nSkip : TSN := fun ρ c M N _ => N ρ c M
@[simp] def nSeq (t u : TSN) : TSN := fun ρ c M N R => t ρ c M (fun ρ' c' M' => u ρ' c' M' N R) R
@[simp] def nIf (tt : TTD) (u v : TSN) : TSN := fun ρ c M N R => tt ρ c fun k c1 => if k = true then u ρ c1 M N R else v ρ c1 M N R
@[simp] def nSet (j : Nat) (te : TND) : TSN := fun ρ c M N _ => te ρ c M fun d c1 => N (ρ.set j (.va d)) c1 M
@[simp] def nPut (tj tk : TD) (te : TND) : TSN := fun ρ c M N _ => te ρ c M fun d c1 => tj ρ c1 fun a c2 => ∃ (j : Nat) (r : List D), a = .int j ∧ M[j]? = some r ∧ tk ρ c2 fun b c3 => ∃ k : Nat, b = .int k ∧ k < r.length ∧ N ρ c3 (M.set j (r.set k d))
@[simp] def nFrz (i : Nat) (t : TSD) : TSN := fun ρ c M _ R => t (ρ.set i (.va (.lst (M.map D.lst)))) c (fun _ _ => False) R
def forN (j : Nat) (tb : TSN) : Nat → Nat → Rho → Nat → List (List D) → (Rho → Nat → List (List D) → Prop) → (D → Nat → Prop) → Prop
  | 0, _, ρ, c, M, N, _ => N ρ c M
  | d + 1, k, ρ, c, M, N, R => tb (ρ.set j (.va (.int (k : Nat)))) c M (fun ρ2 c2 M2 => forN j tb d (k + 1) ρ2 c2 M2 N R) R
@[simp] def nFor (j : Nat) (te : TND) (tb : TSN) : TSN := fun ρ c M N R => te ρ c M fun d c1 => ∃ n : Nat, d = .int n ∧ n < 2 ^ 60 ∧ forN j tb n 0 ρ c1 M N R
section
variable {X : Cx} {τ : Option Addr} {G0 H0 : Hp} {c0 i : Nat} {st : Stmt} {a b rest : List Stmt} {e cc : Expr} {pos : Pos} {t u v : TSN} {te : TND} {tt : TTD}
theorem pnss_nil : PNSs X τ G0 H0 c0 i [] nSkip := pss_imp pss_nil fun D σ H ⟨G, ρ, c, p, qs, M, N, R, w, s, n, h, q, r⟩ => q ρ c M p qs σ G H h s n
theorem pnss_one (h : PNS X τ G0 H0 c0 i st t) : PNSs X τ G0 H0 c0 i [st] t := pss_one h
theorem pnss_cons (h1 : PNS X τ G0 H0 c0 i st t) (h2 : PNSs X τ G0 H0 c0 i rest u) : PNSs X τ G0 H0 c0 i (st :: rest) (nSeq t u) := pss_imp (pss_cons h1 h2) fun D σ H ⟨G, ρ, c, p, qs, M, N, R, w, s, n, h, q, r⟩ =>
  ⟨G, ρ, c, p, qs, M, _, R, w, s, n, h, fun ρ' c' M' p' qs' σ' G' H' h' s' n' => ⟨G', ρ', c', p', qs', M', N, R, w, s', n', h', q, r⟩, r⟩
theorem pns_if (hc : PTD X cc tt) (ha : PNSs X τ G0 H0 c0 i a u) (hb : PNSs X τ G0 H0 c0 i b v) : PNS X τ G0 H0 c0 i (.If cc a b pos) (nIf tt u v) := ps_imp (ps_if hc ha hb) fun D σ H ⟨G, ρ, c, p, qs, M, N, R, w, s, n, h, q, r⟩ =>
  ⟨τ, H0, G, ρ, c, _, s.w0 w, n.en, h, fun k c1 G1 H1 p1 s1 => by
    cases k with
    | true => exact iteT ⟨G1, ρ, c1, p, qs, M, N, R, w, s.trans w s1, n.step s1, p1, q, r⟩
    | false => exact iteF ⟨G1, ρ, c1, p, qs, M, N, R, w, s.trans w s1, n.step s1, p1, q, r⟩⟩
theorem ent_nset {K : PySem.W.Frag} {j : Nat} (hj : j ≠ i) : ∀ D σ H, upN K τ G0 H0 c0 i (nSet j te) D σ H → tAsg (upNE K i te) (gName j) D σ H := fun D σ H ⟨G, ρ, c, p, qs, M, N, R, w, s, n, h, q, r⟩ =>
  ⟨τ, H0, G, ρ, c, p, qs, M, _, s.w0 w, n, h, fun d c' v G' H' p' s' r' => q _ c' M p qs _ G' H' p' (s.trans w s') ((n.step s').setva hj r')⟩
theorem pns_set {j : Nat} {x : Str} {pos' : Pos} (hN : X.N.Nodup) (hj : X.N[j]? = some x) (hij : j ≠ i) (hx : Loc X.env.scope x) (he : PN X i e te) (hs : swapsWith e (some (.Name x pos')) pos.line X.env = pure false := by rfl) (hf : X.fn x = true ∨ X.env.scope.names.lookup x = some .local := by first | exact .inl rfl | exact .inr rfl | assumption) :
    PNS X τ G0 H0 c0 i (.Assign [.Name x pos'] e pos) (nSet j te) := ps_imp (ps_set hN hj hx he hs hf) (ent_nset hij)
theorem pns_setLc {vs : List Nat} {j : Nat} {y : Str} {py : Pos} {elt tg iter : Expr} {ifs : List Expr} {scope : Scope} {own : List (Str × Nat)} {pos spos : Pos} {ti : TAD} {g : TG} {gd : TGD} {js : List Nat} {tt : TTD} {te : TD} (hij : j ≠ i) (hc : X.calm = true) (hN : X.N.Nodup) (hy : X.N[j]? = some y) (hyl : X.env.scope.names.lookup y = some .local)
    (hsw : swapsWith (.ListComp elt [⟨tg, iter, ifs, 0⟩] scope pos) (some (.Name y py)) spos.line X.env = pure true) (hvs : own.map (·.2) = vs) (hi : PID true X tg iter ti) (ok : BlkOk X.N X.env.scope scope own)
    (hg : ∀ (s : Shared) (H : Hp) (C : Addr) (cl : List (Str × Addr)) (fp : List Addr), PG (X.blk s H scope (compEnvC scope cl C X.env) fp) tg g) (hgd : GOk X.K g gd js) (hj : ∀ i ∈ js, i ∈ own.map (·.2))
    (ht : ∀ (s : Shared) (H : Hp) (C : Addr) (cl : List (Str × Addr)) (fp : List Addr), PTsD (X.blk s H scope (compEnvC scope cl C X.env) fp) ifs tt)
    (he : ∀ (s : Shared) (H : Hp) (C : Addr) (cl : List (Str × Addr)) (fp : List Addr), PP (X.blk s H scope (compEnvC scope cl C X.env) fp) elt te) (hs : ∀ x, foldedSetIterable iter X.env x = pure x := by intro _; rfl) :
    PNS X τ G0 H0 c0 i (.Assign [.Name y py] (.ListComp elt [⟨tg, iter, ifs, 0⟩] scope pos) spos) (nSet j (eN (dLc ti gd tt te vs))) := by
  subst hvs
  exact ps_imp (ps_setLc hc hN hy hyl hsw hi ok hg ht he hs) fun D σ H h => by
    obtain ⟨τ', H0', G, ρ, c, p, qs, M, P, w, n, ht, q⟩ := ent_nset hij D σ H h
    exact ent_lc hgd hj σ H _ (ent_pf σ H _ ⟨τ', H0', G, ρ, c, P, w, n.en, ht, q⟩)
theorem pns_put {x j k : Expr} {tpos ppos : Pos} {tj tk : TD} (hx : PE X x (tVar i)) (hj : PP X j tj) (hk : PP X k tk) (he : PN X i e te) (hs0 : PlainIx j := by exact fun _ _ => rfl)
    (ha : ∀ v, assign (.Subscript (.Subscript x j ppos) k tpos) X.env v = (do
      let ov ← holding [v] (eval (.Subscript x j ppos) X.env)
      let iv ← holding [v, ov] (eval k X.env)
      standAt tpos
      holding [v, ov, iv] (setItem ov iv v)
      release [v, ov, iv] []) := by intro _; rfl)
    (hs : swapsWithSole [.Subscript (.Subscript x j ppos) k tpos] e pos.line X.env = pure false := by rfl) (hw : swappedStores [.Subscript (.Subscript x j ppos) k tpos] e X.env = pure none := by rfl)
    (h1 : (assignEach [.Subscript (.Subscript x j ppos) k tpos] X.env).map (·.2) = [assign (.Subscript (.Subscript x j ppos) k tpos) X.env] := by rfl) : PNS X τ G0 H0 c0 i (.Assign [.Subscript (.Subscript x j ppos) k tpos] e pos) (nPut tj tk te) :=
  ps_imp (ps_asg he (pg_sub (pe_ix ix_list hx hj hs0) hk set_list ha) hs hw h1) fun D σ H ⟨G, ρ, c, p, qs, M, N, R, w, s, n, h, q, r⟩ => ⟨τ, H0, G, ρ, c, p, qs, M, _, s.w0 w, n, h, fun d c1 v G1 H1 p1 s1 r1 => by
    have n1 := n.step s1
    have w1 := (s.trans w s1).w0 w
    refine ⟨_, n.si, τ, H0, G1, ρ, c1, _, w1, n1.en, p1, fun a c2 ua G2 H2 p2 s2 r2 => ?_⟩
    have n2 := n1.step s2
    have s02 := (s.trans w s1).trans w s2
    have w2 := s02.w0 w
    obtain ⟨j, r', hja, hr, p3⟩ := p2
    subst hja
    cases (show Rep X.K τ G2 _ _ from r2)
    have hjl : j < qs.length := by
      have := (List.getElem?_eq_some_iff.mp hr).1
      rw [n2.ns.len]; exact this
    obtain ⟨q', hq⟩ : ∃ q', qs[j]? = some q' := ⟨_, List.getElem?_eq_getElem hjl⟩
    refine ⟨p, qs.map V.ref, _, .ref q', rfl, rfl, .of n2.ns.hp, L2.atI_nat (by rw [List.getElem?_map, hq]; rfl), τ, H0, G2, ρ, c2, _, w2, n2.en, p3, fun b c3 ub G3 H3 ⟨k, hb, hk, p4⟩ s3 r3 => ?_⟩
    subst hb
    cases (show Rep X.K τ G3 _ _ from r3)
    have n3 := n2.step s3
    obtain ⟨vs, hv, rr, g, z, nn⟩ := n3.ns.row j q' r' hq hr
    refine ⟨q', vs, k, k, rfl, rfl, hv, ixN_nat' (by rw [rr.len]; exact hk), ?_⟩
    exact q _ c3 _ p qs σ G3 _ p4 ((s02.trans w s3).write g z nn) (n3.put hq hr hv rr (((show Rep X.K τ G1 v d from r1).mono s2.gg).mono s3.gg))⟩
theorem pns_for {x : Str} {j : Nat} {px p p2 : Pos} {tb : TSN} (hp : PassesOwn (model X.prog X.w) X.A X.env X.xe) (hc : X.calm = true) (hg : Gl X "range") (hm : X.mg "range" = none) (he : PN X i e te) (hN : X.N.Nodup) (hj : X.N[j]? = some x) (hij : j ≠ i) (hx : Loc X.env.scope x) (hb : PNSs X τ G0 H0 c0 i a tb)
    (hf : X.fn x = true ∨ X.env.scope.names.lookup x = some .local := by first | exact .inl rfl | exact .inr rfl | assumption) (hs : starEach [e] X.env = [(false, eval e X.env)] := by rfl) (hs2 : ∀ y, foldedSetIterable (.Call (.Name "range" p) [e] [] p2) X.env y = pure y := by intro _; rfl) :
    PNS X τ G0 H0 c0 i (.For (.Name x px) (.Call (.Name "range" p) [e] [] p2) a [] pos) (nFor j te tb) :=
  ps_imp (ps_for hp hc (pi_range1 hg hm (pa_cons he pa_nil hs) hs) (pg_name hN hj hx hf) hb hs2) fun D σ H ⟨G, ρ, c, p, qs, M, N, R, w, s, n, h, q, r⟩ => ⟨τ, H0, G, ρ, c, p, qs, M, _, s.w0 w, n, h, fun d c1 v G1 H1 ⟨k, hd, hk, p1⟩ s1 r1 => by
    subst hd
    cases (show Rep X.K τ G1 _ _ from r1)
    refine ⟨_, rfl, by omega, by omega, ?_⟩
    refine ⟨fun i' m σx Hx => ∃ Gx ρx cx p qs Mx, m = k - i' ∧ i' ≤ k ∧ Step τ G0 H0 c0 Gx Hx cx ∧ NS X.K τ H0 Gx Hx σx ρx i p qs Mx ∧ forN j tb (k - i') i' ρx cx Mx N R,
      ⟨k, G1, ρ, c1, p, qs, M, by simp, Nat.zero_le _, s.trans w s1, n.step s1, by simpa using p1⟩, ?_⟩
    rintro i' m σx Hx ⟨Gx, ρx, cx, p', qs', Mx, rfl, hi, sx, nx, px⟩
    obtain ⟨go, stop, yl⟩ := it_range (K := X.K) (τ := τ) (G0 := Gx) (H0 := Hx) 0 k Gx Hx cx (sx.w0 w) (fun _ _ h => h) (fun z => nomatch z)
    by_cases hlt : i' < k
    · refine .inr ⟨go i' (by simpa using hlt), _, fun σ' H' h => h, fun x H' hy => ?_⟩
      obtain ⟨G2, s2, r2⟩ := yl i' x H' (.int ((0 : Int) + (i' : Nat))) (by rw [List.getElem?_map, List.getElem?_range hlt]; rfl) hy
      rw [show k - i' = (k - (i' + 1)) + 1 by omega] at px
      have n2 := (nx.step s2).setva hij r2
      rw [Int.zero_add] at n2
      exact ⟨G2, _, cx, p', qs', Mx, _, R, w, sx.trans w s2, n2, px, fun ρ4 c4 M4 p4 qs4 σ4 G4 H4 h4 s4 n4 => ⟨k - (i' + 1), by omega, G4, ρ4, c4, p4, qs4, M4, rfl, hlt, s4, n4, h4⟩, r⟩
    · have e : i' = k := by omega
      subst e
      rw [Nat.sub_self] at px
      exact .inl ⟨stop _ (by simp), q ρx cx Mx p' qs' σx Gx Hx px sx nx⟩⟩
/-- from here on the lists are data -/
theorem pnss_frz {t : TSD} (h : PSsD X τ G0 H0 c0 rest t) : PNSs X τ G0 H0 c0 i rest (nFrz i t) := pss_imp h fun D σ H ⟨G, ρ, c, p, qs, M, N, R, w, s, n, h, q, r⟩ =>
  ⟨plus G H p qs, _, c, _, R, w, ⟨fun a o h => plus_le n.ns a o (s.gg a o h), (plus_w (s.w0 w) n.ns).le, s.hh, fun a h k => by
    rw [plus_ne (fun z => k.ne (n.ns.out z).2.1)]
    exact s.gn a h k, s.tn⟩, n.data, h, fun _ _ _ _ _ z => z.elim, r⟩
end
/-! lists are made -/
def RN : RR := fun K τ H G' H' v d => ∃ p qs M, v = .ref p ∧ d = .lst (M.map D.lst) ∧ Nst K τ H G' H' p qs M
@[simp] def repLD (x y : D) (Q : D → Prop) : Prop := match x, y with
  | .lst l, .int k => l.length ≤ 1000 ∧ 0 ≤ k ∧ k ≤ 1000 ∧ Q (.lst (List.replicate k.toNat l).flatten)
  | _, _ => False
section
variable {X : Cx} {a b : Expr} {pos : Pos} {ta tb : TD}
theorem pfd_rep (ha : PP X a ta) (hb : PP X b tb) : PF X (.BinOp a .Mult b pos) (dBin repLD ta tb) := by
  refine up_bin stP bkF ?_ (pe_op op_rep ha hb)
  intro τ Ha Hb G H c v w x y P Q w0 r1 r2 hf q
  unfold repLD at hf
  split at hf
  · obtain ⟨h2, h3, h4, p⟩ := hf
    cases (show Rep X.K τ G _ _ from r2)
    cases (show Rep X.K τ G _ _ from r1) with
    | @lst _ xs _ s r =>
      refine ⟨_, _, _, rfl, rfl, w0.le _ _ s, by omega, by omega, ?_, fun a ha => ?_⟩
      · rw [r.len, sizeLine_eq]
        exact Nat.le_trans (Nat.mul_le_mul h2 (show Int.toNat _ ≤ 1000 by omega)) (by decide)
      · exact q _ _ _ _ p (.laidF w0 ha) (fresh_rf w0 ha (r.rep _))
  · exact hf.elim
theorem ent_lcN {g : TG} {gd : TGD} {js vs : List Nat} {ti : TAD} {tt : TTD} {te : TD} (hg : GOk X.K g gd js) (hj : ∀ i ∈ js, i ∈ vs) :
    ∀ σ H Q, upE RN X.K (dLc ti gd tt te vs) σ H Q → tLc (upI true X.K ti) g (upT X.K tt) (upE RF X.K te) vs σ H Q := by
  intro σ H Q ⟨τ, H0, G, ρ, c, P, w, en, p, q⟩
  refine ⟨τ, H0, G, ρ, c, _, w, en, p, fun items c1 J G1 H1 ⟨hlen, p1⟩ s1 it D hD => ?_⟩
  have w1 := s1.w0 w
  have en1 := en.step s1
  have nD : τ ≠ some D := t_ne s1.tn hD
  have gD := g_none w1 hD
  refine ⟨fun i m Hx => ∃ Gx cx M qs, m = items.length - i ∧ i ≤ items.length ∧ Step τ G1 H1 c1 Gx Hx cx ∧ Nst X.K τ H1 Gx Hx D qs M ∧ M.length ≤ i ∧
    lcT gd tt te (items.drop i) (forgetR ρ vs) cx (M.map Pd.D.lst) (fun acc c2 => P (.lst acc) c2), ⟨items.length, G1, c1, [], [], by simp, Nat.zero_le _, .laidF w1 hD, ⟨upd_same, gD, hD, nD, .nil, (fun z => nomatch z), rfl, fun j q r h => by simp at h⟩, Nat.zero_le _, by simpa using p1⟩, ?_⟩
  rintro i m Hx ⟨Gx, cx, M, qs, rfl, hi, sx, nx, hax, px⟩
  have wx := sx.w0 w1
  obtain ⟨go, stop, yl⟩ := it Gx Hx cx wx sx.gg (fun _ => sx.hh)
  by_cases hlt : i < items.length
  · refine .inr ⟨go i hlt, _, fun H' h => h, fun x H' hy => ?_⟩
    · rw [List.drop_eq_getElem_cons hlt] at px
      obtain ⟨G2, s2, r2⟩ := yl i x H' items[i] (List.getElem?_eq_getElem hlt) hy
      have s12 := sx.trans w1 s2
      refine hg τ H0 G2 H' cx (wipe σ vs) (forgetR ρ vs) x items[i] _ _ (s12.w0 w1) ((en1.forget vs).step s12) r2 px fun σ3 ρ3 p3 e3 k3 => ?_
      refine ⟨?_, τ, H0, G2, ρ3, cx, _, s12.w0 w1, e3, p3, fun k c4 G4 H4 p4 s4 => ?_⟩
      · have ww : ∀ vs' : List Nat, (∀ i ∈ js, i ∈ vs') → wipe σ3 vs' = wipe (wipe σ vs) vs' := k3
        rw [ww vs hj]
        exact wipe_idem vs σ
      · have s14 := s12.trans w1 s4
        have s24 := s2.trans wx s4
        have n4 := nx.step s24
        cases k with
        | false =>
          rw [if_neg Bool.false_ne_true] at p4
          exact iteF ⟨items.length - (i + 1), by omega, G4, c4, M, qs, rfl, hlt, s14, n4, by omega, p4⟩
        | true =>
          rw [if_pos rfl] at p4
          refine iteT ⟨τ, H0, G4, ρ3, c4, _, s14.w0 w1, e3.step s4, p4, fun y c5 u G5 H5 p5 s5 r5 => ?_⟩
          have w4 := s14.w0 w1
          have n5 := n4.step s5
          have s15 := s14.trans w1 s5
          obtain ⟨a, us, ds, rfl, rfl, ha, ra, ga, hz, na⟩ := r5
          have naD : a ≠ D := fun z => by rw [z, n4.hp] at hz; cases hz
          have naq : a ∉ qs := fun z => by
            obtain ⟨_, h, _⟩ := n4.mem z
            rw [h] at hz; cases hz
          have z1 : H1 a = none := s14.zz w1 a hz
          refine ⟨_, n5.hp, ?_, items.length - (i + 1), by omega, G5, c5, M ++ [ds], qs ++ [a], rfl, hlt, s15.write n5.gp hD nD, ⟨by rw [upd_same, List.map_append]; rfl, n5.gp, n5.zp, n5.np, ?_, ?_, by simp [n5.len], fun j q r h1 h2 => ?_⟩, by simp; omega, ?_⟩
          · rw [List.length_map, n5.len]; exact big_lt (by omega)
          · rw [List.nodup_append]
            refine ⟨n5.nd, by simp, fun x hx y hy => ?_⟩
            rw [List.mem_singleton.mp hy]
            intro z
            exact naq (by rw [← z]; exact hx)
          · intro z
            rcases List.mem_append.mp z with z | z
            · exact n5.pq z
            · exact naD (List.mem_singleton.mp z).symm
          · have hl := n5.len
            by_cases hj2 : j < qs.length
            · rw [List.getElem?_append_left hj2] at h1
              rw [List.getElem?_append_left (by omega)] at h2
              obtain ⟨vs', b1, b2, b3, b4, b5⟩ := n5.row j q r h1 h2
              exact ⟨vs', by rw [upd_ne (fun z => n5.pq (by rw [← z]; exact List.mem_of_getElem? h1))]; exact b1, b2, b3, b4, b5⟩
            · rw [List.getElem?_append_right (by omega)] at h1
              rw [List.getElem?_append_right (by omega)] at h2
              have e1 : j - qs.length = 0 := by
                have := (List.getElem?_eq_some_iff.mp h1).1
                simpa using this
              rw [e1] at h1
              rw [show j - M.length = 0 by omega] at h2
              cases h1
              cases h2
              exact ⟨us, by rw [upd_ne naD]; exact ha, ra, ga, z1, na⟩
          · rw [List.map_append]
            exact p5
  · have e : i = items.length := by omega
    subst e
    refine .inl ⟨stop _ (Nat.le_refl _), ?_⟩
    rw [List.drop_length] at px
    exact q _ cx _ Gx Hx px (s1.trans w sx) ⟨D, qs, M, rfl, rfl, nx.zz (s1.zz w)⟩
end
section
variable {X : Cx} {elt tg iter : Expr} {ifs : List Expr} {scope : Scope} {own : List (Str × Nat)} {pos : Pos} {vs : List Nat} {ti : TAD} {g : TG} {gd : TGD} {js : List Nat} {tt : TTD} {te : TD}
theorem pnd_lc (hc : X.calm = true) (hN : X.N.Nodup) (hvs : own.map (·.2) = vs) (hi : PID true X tg iter ti) (ok : BlkOk X.N X.env.scope scope own)
    (hg : ∀ (s : Shared) (H : Hp) (C : Addr) (cl : List (Str × Addr)) (fp : List Addr), PG (X.blk s H scope (compEnvC scope cl C X.env) fp) tg g) (hgd : GOk X.K g gd js) (hj : ∀ i ∈ js, i ∈ own.map (·.2))
    (ht : ∀ (s : Shared) (H : Hp) (C : Addr) (cl : List (Str × Addr)) (fp : List Addr), PTsD (X.blk s H scope (compEnvC scope cl C X.env) fp) ifs tt)
    (he : ∀ (s : Shared) (H : Hp) (C : Addr) (cl : List (Str × Addr)) (fp : List Addr), PF (X.blk s H scope (compEnvC scope cl C X.env) fp) elt te) (hs : ∀ x, foldedSetIterable iter X.env x = pure x := by intro _; rfl) :
    PE X (.ListComp elt [⟨tg, iter, ifs, 0⟩] scope pos) (upE RN X.K (dLc ti gd tt te vs)) := by
  subst hvs
  exact pe_imp (pe_lc hc hN hi ok hg ht he hs) (ent_lcN hgd hj)
end
theorem lst_inj : ∀ {M M' : List (List D)}, M.map D.lst = M'.map D.lst → M = M'
  | [], [], _ => rfl
  | [], _ :: _, h => by simp at h
  | _ :: _, [], h => by simp at h
  | a :: M, b :: M', h => by
    simp only [List.map_cons, List.cons.injEq, D.lst.injEq] at h
    rw [h.1, lst_inj h.2]
def NoOw (ρ : Rho) : Prop := ∀ (j : Nat) (s : Sl), ρ[j]? = some s → s.own = false
section
variable {X : Cx} {τ : Option Addr} {G0 H0 : Hp} {c0 i : Nat} {rest : List Stmt} {tn : TSN}
theorem ns_start {K : PySem.W.Frag} {G H G1 H1 : Hp} {c c1 : Nat} {σ : L2.St} {ρ : Rho} {v : V} {M : List (List D)} (w : W0 τ G0 H0 c0) (s : Step τ G0 H0 c0 G H c) (en : EnvR K τ H0 G H σ ρ) (no : NoOw ρ) (hi : i < ρ.length) (s1 : Step τ G H c G1 H1 c1) (r : RN K τ H G1 H1 v (.lst (M.map D.lst))) :
    ∃ p qs, NS K τ H0 G1 H1 (σ.set i (some v)) (ρ.set i .no) i p qs M := by
  obtain ⟨p, qs, M', rfl, hd, n⟩ := r
  have e := lst_inj (D.lst.inj hd)
  subst e
  refine ⟨p, qs, (en.step s1).setno i _, fun k t hk => ?_, by rw [List.getElem?_set_self hi], by rw [List.getElem?_set_self (by rw [← en.len]; exact hi)], n.zz (s.zz w)⟩
  rcases getset hk with ⟨_, rfl⟩ | ⟨_, q⟩
  · rfl
  · exact no k t q
/-- steps = [.. for ..] -/
theorem pss_startLc {vs : List Nat} {y : Str} {py : Pos} {elt tg iter : Expr} {ifs : List Expr} {scope : Scope} {own : List (Str × Nat)} {pos spos : Pos} {ti : TAD} {g : TG} {gd : TGD} {js : List Nat} {tt : TTD} {te : TD} (hc : X.calm = true) (hN : X.N.Nodup) (hy : X.N[i]? = some y) (hyl : X.env.scope.names.lookup y = some .local)
    (hsw : swapsWith (.ListComp elt [⟨tg, iter, ifs, 0⟩] scope pos) (some (.Name y py)) spos.line X.env = pure true) (hvs : own.map (·.2) = vs) (hi : PID true X tg iter ti) (ok : BlkOk X.N X.env.scope scope own)
    (hg : ∀ (s : Shared) (H : Hp) (C : Addr) (cl : List (Str × Addr)) (fp : List Addr), PG (X.blk s H scope (compEnvC scope cl C X.env) fp) tg g) (hgd : GOk X.K g gd js) (hj : ∀ i ∈ js, i ∈ own.map (·.2))
    (ht : ∀ (s : Shared) (H : Hp) (C : Addr) (cl : List (Str × Addr)) (fp : List Addr), PTsD (X.blk s H scope (compEnvC scope cl C X.env) fp) ifs tt)
    (he : ∀ (s : Shared) (H : Hp) (C : Addr) (cl : List (Str × Addr)) (fp : List Addr), PF (X.blk s H scope (compEnvC scope cl C X.env) fp) elt te) (hr : PNSs X τ G0 H0 c0 i rest tn) (hs : ∀ x, foldedSetIterable iter X.env x = pure x := by intro _; rfl) :
    PSsD X τ G0 H0 c0 (.Assign [.Name y py] (.ListComp elt [⟨tg, iter, ifs, 0⟩] scope pos) spos :: rest) (fun ρ c N R => dLc ti gd tt te vs ρ c fun d c1 => NoOw ρ ∧ i < ρ.length ∧ ∃ M, d = .lst (M.map D.lst) ∧ tn (ρ.set i .no) c1 M (fun _ _ _ => False) R) := by
  subst hvs
  have key : PS X (.Assign [.Name y py] (.ListComp elt [⟨tg, iter, ifs, 0⟩] scope pos) spos) (tAsg (tLc (upI true X.K ti) g (upT X.K tt) (upE RF X.K te) (own.map (·.2))) (gName i)) := ps_setLc hc hN hy hyl hsw hi ok hg ht he hs
  exact pss_imp (pss_cons key hr) fun D σ H ⟨G, ρ, c, N, R, w, s, en, p, q, r⟩ => ent_lcN hgd hj σ H (fun x H1 => upN X.K τ G0 H0 c0 i tn D (σ.set i (some x)) H1) ⟨τ, H0, G, ρ, c, _, s.w0 w, en, p, fun d c1 v G1 H1 ⟨no, hil, M, hd, p1⟩ s1 rn => by
    subst hd
    obtain ⟨p', qs, n⟩ := ns_start w s en no hil s1 rn
    exact ⟨G1, _, c1, p', qs, M, _, R, w, s.trans w s1, n, p1, fun _ _ _ _ _ _ _ _ z => z.elim, r⟩⟩
/-- a, steps = .., [.. for ..] -/
theorem pss_startPar {j : Nat} {x y : Str} {px py pt pos : Pos} {kt kt2 pt2} {e e2 : Expr} {ta tb : TD} (hc : X.calm = true) (hN : X.N.Nodup) (hj : X.N[j]? = some x) (hi : X.N[i]? = some y) (hij : j ≠ i)
    (hx : X.env.scope.names.lookup x = some .local) (hy : X.env.scope.names.lookup y = some .local) (ha : PP X e ta) (hb : PE X e2 (upE RN X.K tb))
    (hw : swappedStores [.Tuple [.Name x px, .Name y py] kt pt] (.Tuple [e, e2] kt2 pt2) X.env = pure (some [x, y])) (hr : PNSs X τ G0 H0 c0 i rest tn)
    (hs : swapsWithSole [.Tuple [.Name x px, .Name y py] kt pt] (.Tuple [e, e2] kt2 pt2) pos.line X.env = pure false := by rfl)
    (h1 : starEach [e, e2] X.env = (false, eval e X.env) :: starEach [e2] X.env := by rfl) (h2 : starEach [e2] X.env = (false, eval e2 X.env) :: starEach [] X.env := by rfl) :
    PSsD X τ G0 H0 c0 (.Assign [.Tuple [.Name x px, .Name y py] kt pt] (.Tuple [e, e2] kt2 pt2) pos :: rest) (fun ρ c N R => ta ρ c fun d0 c1 => tb ρ c1 fun d c2 => NoOw ρ ∧ i < ρ.length ∧ ∃ M, d = .lst (M.map D.lst) ∧ tn ((ρ.set j (.va d0)).set i .no) c2 M (fun _ _ _ => False) R) :=
  pss_imp (pss_cons (ps_par hc hN hj hi hij hx hy (pa_cons ha (pa_cons hb pa_nil h2) h1) hw hs) hr) fun D σ H ⟨G, ρ, c, N, R, w, s, en, p, q, r⟩ =>
    ⟨τ, H0, G, ρ, c, _, s.w0 w, en, p, fun d0 c1 v1 G1 H1 p1 s1 r1 => ⟨τ, H0, G1, ρ, c1, _, (s.trans w s1).w0 w, en.step s1, p1, fun d c2 v2 G2 H2 ⟨no, hil, M, hd, p2⟩ s2 rn => by
      subst hd
      have s12 := s.trans w s1
      have no' : NoOw (ρ.set j (.va d0)) := fun k t hk => by
        rcases getset hk with ⟨_, rfl⟩ | ⟨_, q⟩
        · rfl
        · exact no k t q
      obtain ⟨p', qs, n⟩ := ns_start w s12 ((en.step s1).setva (i := j) r1) no' (by rw [List.length_set]; exact hil) s2 rn
      exact ⟨v1, v2, rfl, G2, _, c2, p', qs, M, _, R, w, s12.trans w s2, n, p2, fun _ _ _ _ _ _ _ _ z => z.elim, r⟩⟩⟩
end
end Pd
end
section
set_option Elab.async false
set_option linter.all false
set_option maxRecDepth 100000
set_option maxHeartbeats 4000000
set_option exponentiation.threshold 10000
/-! PV4: drawn machines. -/
namespace Pd
open PySem PyProof.Rows L2 RZ Ma Mc
open PySem.Spec hiding Row
/-- rows as lists of one's own -/
def mat (A : List Row) : List (List D) := A.map fun r => r.map frD
theorem forN_by {j : Nat} {tb : TSN} {N : Rho → Nat → List (List D) → Prop} {R : D → Nat → Prop} (I : Nat → Rho → Nat → List (List D) → Prop) : ∀ (d k : Nat) (ρ : Rho) (c : Nat) (M : List (List D)), I k ρ c M →
    (∀ k' ρ c M, k ≤ k' → k' < k + d → I k' ρ c M → ∀ N' : Rho → Nat → List (List D) → Prop, (∀ ρ2 c2 M2, I (k' + 1) ρ2 c2 M2 → N' ρ2 c2 M2) → tb (ρ.set j (.va (.int (k' : Nat)))) c M N' R) →
    (∀ ρ c M, I (k + d) ρ c M → N ρ c M) → forN j tb d k ρ c M N R
  | 0, k, ρ, c, M, i0, _, e => e ρ c M i0
  | d + 1, k, ρ, c, M, i0, st, e => st k ρ c M (Nat.le_refl _) (by omega) i0 _ fun ρ2 c2 M2 i2 => forN_by I d (k + 1) ρ2 c2 M2 i2 (fun k' ρ c M h1 h2 => st k' ρ c M (by omega) (by omega)) (fun ρ c M h => e ρ c M (by rw [show k + (d + 1) = k + 1 + d by omega]; exact h))
theorem mat_get {A : List Row} {j : Nat} {r : Row} (h : A[j]? = some r) : (mat A)[j]? = some (r.map frD) := by
  unfold mat
  rw [List.getElem?_map, h]; rfl
theorem mat_set (A : List Row) (j k : Nat) (r : Row) (q : Rat) : (mat A).set j ((r.map frD).set k (frD q)) = mat (A.set j (r.set k q)) := by
  unfold mat
  rw [List.map_set, List.map_set]
def dim (N n : Nat) (A : List Row) : Prop := A.length = n ∧ ∀ r ∈ A, r.length = n ∧ ∀ x ∈ r, Sb 6 N x
theorem dim.set {N n : Nat} {A : List Row} (h : dim N n A) {j k : Nat} {r : Row} {q : Rat} (hr : A[j]? = some r) (hq : Sb 6 N q) : dim N n (A.set j (r.set k q)) := by
  refine ⟨by rw [List.length_set]; exact h.1, fun s hs => ?_⟩
  rcases List.mem_or_eq_of_mem_set hs with hs | rfl
  · exact h.2 s hs
  · have hm := h.2 r (List.mem_of_getElem? hr)
    refine ⟨by rw [List.length_set]; exact hm.1, fun x hx => ?_⟩
    rcases List.mem_or_eq_of_mem_set hx with hx | rfl
    · exact hm.2 x hx
    · exact hq
def tm_test : TTD := (dOr (bT (dBin eqD (dVar 3) (dC (.int 0)))) (dOr (dAnd (bT (dBin eqD (dVar 6) (dVar 5))) (bT (dBin (inD false) (dVar 3) (dTup (dCons (dC (.int 1)) (dCons (dC (.int 2)) dNil)))))) (dOr (bT (dBin eqD (dVar 6) (dBin addD (dVar 5) (dC (.int 1))))) (dAnd (bT (dBin eqD (dVar 3) (dC (.int 3)))) (bT (dBin eqD (dVar 5) (dBin addD (dVar 6) (dC (.int 1)))))))))
theorem tm_ok {s0 s1 s2 s4 s7 s8 : Sl} {kind j k : Int} {c : Nat} {Q : Bool → Nat → Prop} (h : ∀ b, Q b c) : tm_test [s0, s1, s2, .va (.int kind), s4, .va (.int k), .va (.int j), s7, s8] c Q := by
  simp only [tm_test, dOr, dAnd, bT, dBin, dVar, dC, dTup, dCons, dNil, addD, List.getElem?_cons_zero, List.getElem?_cons_succ, Option.some.injEq, Sl.va.injEq, exists_eq_left', eqD_int, List.length]
  refine ⟨_, rfl, ?_⟩
  split
  · exact h _
  refine ⟨_, rfl, ?_⟩
  have rest : ∃ k_1, D.bl (decide (j = k + 1)) = D.bl k_1 ∧ if k_1 = true then Q true c else ∃ k_2, D.bl (decide (kind = 3)) = D.bl k_2 ∧ if k_2 = true then ∃ k_3, D.bl (decide (k = j + 1)) = D.bl k_3 ∧ Q k_3 c else Q false c := by
    refine ⟨_, rfl, ?_⟩
    split
    · exact h _
    refine ⟨_, rfl, ?_⟩
    split
    · exact ⟨_, rfl, h _⟩
    · exact h _
  split
  · refine ⟨by decide, kind, [1, 2], rfl, .inr rfl, _, rfl, ?_⟩
    simp only [Bool.false_eq_true, if_false]
    split
    · exact h _
    · exact rest
  · simp only [Bool.false_eq_true, if_false]
    exact rest
def tm_moves : TD := (dLc (iRange1 (dCons (dVar 1) dNil)) (gN 5) yesD (dLc (iRange1 (dCons (dVar 2) dNil)) (gN 6) yesD (dFnN 2 sp_law_of (dCons (dVar 0) (dCons (dLst (dCons (dTup (dCons (dC (.int 0)) (dCons (dC (.int 1)) dNil))) (dCons (dTup (dCons (dC (.int 1)) (dCons (dC (.int 1)) dNil))) (dCons (dTup (dCons (dC (.int 0)) (dCons (dC (.int 1)) dNil))) (dCons (dTup (dCons (dUn negD (dC (.int 1))) (dCons (dC (.int 1)) dNil))) (dCons (dTup (dCons (dC (.int 2)) (dCons (dC (.int 1)) dNil))) dNil)))))) dNil))) [6]) [5])
def tm_ret : TSD := (sRet (dTup (dCons (dCall tuple1 (dCons (dLc (iSeq (dVar 4)) (gN 8) yesD (dCall tuple1 (dCons (dVar 8) dNil)) [8]) dNil)) (dCons (dCall tuple1 (dCons (dLc (iSeq (dVar 7)) (gN 8) yesD (dCall tuple1 (dCons (dVar 8) dNil)) [8]) dNil)) dNil))))
def tm_last : TSN := nSeq (nIf (bT (dBin eqD (dFnN 2 sp_law_take (dCons (dVar 0) (dCons (dC (.int 6)) dNil))) (dC (.int 0)))) (nPut (dC (.int 0)) (dC (.int 0)) (eN (dFnN 2 sp_law_of (dCons (dVar 0) (dCons (dLst (dCons (dTup (dCons (dC (.int 1)) (dCons (dC (.int 2)) dNil))) (dCons (dTup (dCons (dUn negD (dC (.int 1))) (dCons (dC (.int 3)) dNil))) (dCons (dTup (dCons (dC (.int 3)) (dCons (dC (.int 2)) dNil))) dNil)))) dNil))))) nSkip)
  (nFrz 4 tm_ret)
def tm_rest : TSN := nSeq (nFor 6 (eN (dVar 1)) (nFor 5 (eN (dVar 1)) (nIf tm_test (nPut (dVar 6) (dVar 5) (eN (dFnN 1 sp_law_whole (dCons (dVar 0) dNil)))) nSkip)))
  (nSeq (nSet 7 (eN tm_moves)) tm_last)
def tm_lc : TD := (dLc (iRange1 (dCons (dVar 1) dNil)) (gN 5) yesD (dBin repLD (dLst (dCons (dTup (dCons (dC (.int 0)) (dCons (dC (.int 1)) dNil))) dNil)) (dVar 1)) [5])
def t_machine : TSD := fun ρ c N R => dFnN 2 sp_law_take (dCons (dVar 0) (dCons (dC (.int 5)) dNil)) ρ c fun d0 c1 => tm_lc ρ c1 fun d c2 => NoOw ρ ∧ 4 < ρ.length ∧ ∃ M, d = .lst (M.map D.lst) ∧ tm_rest ((ρ.set 3 (.va d0)).set 4 .no) c2 M (fun _ _ _ => False) R
theorem rows_tup (A : List Row) : (mat A).map D.lst = A.map rowL := by
  unfold mat rowL
  rw [List.map_map]; rfl
theorem lc_tup {ρ : Rho} {c : Nat} {Q : List D → Nat → Prop} (i : Nat) (hi : i < ρ.length) (A : List Row) (h : Q (A.map rowT) c) : lcT (gN i) yesD (dCall tuple1 (dCons (dVar i) dNil)) (A.map rowL) ρ c [] Q := by
  refine lc_map rowL rowT A [] Q (fun x _ Q' q => ?_) (by simpa using h)
  simp only [gN, dCall, dCons, dNil, dVar]
  refine ⟨rowL x, by rw [List.getElem?_set_self hi], ?_⟩
  simpa [rowL, rowT] using q
theorem machine_ret {s0 s1 s2 s3 s5 s6 s8 : Sl} {A B : List Row} {c : Nat} {N : Rho → Nat → Prop} {R : D → Nat → Prop} (hA : A.length ≤ 1000) (hB : B.length ≤ 1000) (h : R (machD A B) c) :
    tm_ret [s0, s1, s2, s3, .va (.lst (A.map rowL)), s5, s6, .va (.lst (B.map rowL)), s8] c N R := by
  simp only [tm_ret, sRet, dTup, dCall, dCons, dNil, dLc, iSeq, dVar, forgetR, List.set, List.getElem?_cons_zero, List.getElem?_cons_succ, Option.some.injEq, Sl.va.injEq, exists_eq_left']
  refine ⟨by rw [List.length_map]; omega, lc_tup 8 (by simp) A ?_⟩
  simp only [tuple1]
  refine ⟨by rw [List.length_map]; omega, lc_tup 8 (by simp) B ?_⟩
  exact ⟨by simp, h⟩
theorem machine_last {s5 s6 s8 : Sl} {n m kind : Int} {A B : List Row} {nn c : Nat} {R : D → Nat → Prop} (hn : 0 < nn) (hn2 : nn ≤ 2) (hA : dim 12 nn A) (hB : B.length ≤ 1000) (hc : c ≤ 60000) (h : ∀ A' c', dim 12 nn A' → c ≤ c' → c' ≤ c + 2 → R (machD A' B) c') :
    tm_last [.va .tin, .va (.int n), .va (.int m), .va (.int kind), .no, s5, s6, .va (.lst (B.map rowL)), s8] c (mat A) (fun _ _ _ => False) R := by
  have fin : ∀ (A' : List Row) (c' : Nat), dim 12 nn A' → c ≤ c' → c' ≤ c + 2 → nFrz 4 tm_ret [.va .tin, .va (.int n), .va (.int m), .va (.int kind), .no, s5, s6, .va (.lst (B.map rowL)), s8] c' (mat A') (fun _ _ _ => False) R := fun A' c' h1 h2 h3 => by
    simp only [nFrz, List.set, rows_tup]
    exact machine_ret (by rw [h1.1]; omega) hB (h A' c' h1 h2 h3)
  obtain ⟨r, hr⟩ : ∃ r, A[0]? = some r := ⟨_, List.getElem?_eq_getElem (by rw [hA.1]; exact hn)⟩
  have rl := (hA.2 r (List.mem_of_getElem? hr)).1
  simp only [tm_last, nSeq, nIf, bT, dBin, dFnN, dCons, dNil, dVar, dC, List.getElem?_cons_zero, List.getElem?_cons_succ, Option.some.injEq, Sl.va.injEq, exists_eq_left', List.length]
  refine ⟨by trivial, 6, rfl, by decide, by decide, by omega, fun k hk => ?_⟩
  simp only [eqD_int]
  refine ⟨_, rfl, ?_⟩
  by_cases k0 : k = 0
  · subst k0
    have e2 : (1 / 2 : Rat).num = 1 ∧ (1 / 2 : Rat).den = 2 := by decide +kernel
    have e3 : (-1 / 3 : Rat).num = -1 ∧ (-1 / 3 : Rat).den = 3 := by decide +kernel
    have e4 : (3 / 2 : Rat).num = 3 ∧ (3 / 2 : Rat).den = 2 := by decide +kernel
    simp only [nPut, eN, dFnN, dCons, dNil, dVar, dC, dLst, dTup, dUn, negD, List.getElem?_cons_zero, List.getElem?_cons_succ, Option.some.injEq, Sl.va.injEq, exists_eq_left', List.length]
    refine ⟨by decide, by decide, by decide, by decide, by trivial, _, rfl, by decide, by decide, by omega, fun d hd => ?_⟩
    obtain ⟨q, rfl, hq⟩ : ∃ q : Rat, d = frD q ∧ Sb 6 12 q := by
      simp at hd
      rcases hd with rfl | rfl | rfl
      · exact ⟨1 / 2, by unfold frD; rw [e2.1, e2.2]; rfl, sb_of (by decide +kernel)⟩
      · exact ⟨-1 / 3, by unfold frD; rw [e3.1, e3.2]; rfl, sb_of (by decide +kernel)⟩
      · exact ⟨3 / 2, by unfold frD; rw [e4.1, e4.2]; rfl, sb_of (by decide +kernel)⟩
    refine ⟨0, r.map frD, rfl, mat_get hr, 0, rfl, by rw [List.length_map, rl]; exact hn, ?_⟩
    rw [mat_set]
    exact fin _ _ (hA.set hr hq) (by omega) (by omega)
  · have k1 : ¬ ((k : Int) = 0) := by omega
    simp only [decide_eq_false k1, Bool.false_eq_true, if_false, nSkip]
    exact fin A _ hA (by omega) (by omega)
theorem rowL_of {P : Row → Prop} : ∀ {l : List D}, (∀ d ∈ l, ∃ q, d = rowL q ∧ P q) → ∃ r : List Row, l = r.map rowL ∧ ∀ x ∈ r, P x
  | [], _ => ⟨[], rfl, fun _ z => nomatch z⟩
  | d :: l, h => by
    obtain ⟨q, rfl, hq⟩ := h d List.mem_cons_self
    obtain ⟨r, rfl, hr⟩ := rowL_of (l := l) fun e he => h e (List.mem_cons_of_mem _ he)
    refine ⟨q :: r, rfl, fun x hx => ?_⟩
    rcases List.mem_cons.mp hx with z | hx
    · rw [z]; exact hq
    · exact hr x hx
def moveL : List Rat := [0, 1, 0, -1, 2]
theorem move_eq : moveL.map frD = [.tup [.int 0, .int 1], .tup [.int 1, .int 1], .tup [.int 0, .int 1], .tup [.int (-1), .int 1], .tup [.int 2, .int 1]] := by
  simp only [moveL, List.map_cons, List.map_nil, frD]
  rfl
theorem move_sb : ∀ q ∈ moveL, Sb 1 2 q := fun q hq => sb_of ((by decide +kernel : ∀ q ∈ moveL, (q * ((1 : Nat) : Rat)).den = 1 ∧ (q * ((1 : Nat) : Rat)).num.natAbs ≤ 2) q hq)
theorem machine_moves {s3 s4 s5 s6 s7 s8 : Sl} {n m c : Nat} {P : D → Nat → Prop} (hn : n ≤ 2) (hm : m ≤ 2) (hc : c ≤ 60000) (h : ∀ (B : List Row) (c' : Nat), B.length = n → (∀ r ∈ B, r.length = m ∧ ∀ x ∈ r, Sb 1 2 x) → c ≤ c' → c' ≤ c + 4 → P (.lst (B.map rowL)) c') :
    tm_moves [.va .tin, .va (.int n), .va (.int m), s3, s4, s5, s6, s7, s8] c P := by
  have mn : m * n ≤ 2 * 2 := Nat.mul_le_mul hm hn
  simp only [tm_moves, dLc, iRange1, dCons, dNil, dVar, List.getElem?_cons_zero, List.getElem?_cons_succ, Option.some.injEq, Sl.va.injEq, exists_eq_left', forgetR, List.set]
  refine ⟨by omega, by omega, by simp [ivs]; omega, ?_⟩
  rw [ivs_nat]
  refine lc_draw (S := fun d => ∃ r, d = rowL r ∧ (r.length = m ∧ ∀ x ∈ r, Sb 1 2 x)) m 90000 _ _ _ _ _ (by rw [List.length_range]; omega) (fun x hx c1 Q' hc kk => ?_) (fun l c2 e hl q1 q2 => ?_)
  · refine ⟨.int (m : Nat), rfl, ?_⟩
    refine ⟨by omega, by omega, by simp [ivs]; omega, ?_⟩
    rw [ivs_nat]
    refine lc_draw (S := fun d => ∃ q, d = frD q ∧ Sb 1 2 q) 1 90000 _ _ _ _ _ (by rw [List.length_range]; omega) (fun x hx c1 Q' hc k => ?_) (fun l c2 e hl q1 q2 => ?_)
    · simp [-D.tup.injEq]
      refine ⟨moveL.map frD, by rw [move_eq], by simp [moveL], by simp [moveL], by omega, fun d hd => ?_⟩
      obtain ⟨q, hq, rfl⟩ := List.mem_map.mp hd
      exact k _ _ ⟨q, rfl, move_sb q hq⟩ (by omega) (by omega)
    · obtain ⟨r, rfl, hr⟩ := row_of hl
      have e' : r.length = m := by simpa using e
      rw [List.length_range] at q2
      have := kk (rowL r) c2 ⟨r, rfl, e', hr⟩ q1 (by omega)
      simpa [rowL] using this
  · obtain ⟨B, rfl, hB⟩ := rowL_of hl
    have e' : B.length = n := by simpa using e
    rw [List.length_range] at q2
    have := h B c2 e' hB q1 (by omega)
    simpa using this
theorem hs_law_machine (ds : List D) (c : Nat) (Q : D → Nat → Prop) (h : sp_law_machine ds c Q) : t_machine (startR ["_law_tin", "_law_n_so", "_law_m_so", "_law_kind_so", "_law_steps_so", "_law_k", "_law_j", "_law_moves_so", "_law_row_so"] ds) c (fun _ c' => Q .non c') Q := by
  obtain ⟨n, m, rfl, h1, h2, h3, h4, h⟩ := h
  simp only [t_machine, startR, dFnN, dCons, dNil, dVar, dC, List.map, List.length, List.replicate, List.append, List.set, HAppend.hAppend, Append.append, List.getElem?_cons_zero, List.getElem?_cons_succ, Option.some.injEq, Sl.va.injEq, exists_eq_left']
  refine ⟨by trivial, 5, rfl, by decide, by decide, by omega, fun kind hkind => ?_⟩
  simp only [tm_lc, dLc, iRange1, dCons, dNil, dVar, List.getElem?_cons_zero, List.getElem?_cons_succ, Option.some.injEq, Sl.va.injEq, exists_eq_left', forgetR, List.set]
  refine ⟨by omega, by omega, by simp [ivs]; omega, ?_⟩
  rw [ivs_nat]
  refine lc_map _ (fun _ => rowL (List.replicate n 0)) _ [] _ (fun x hx Q' q => ?_) ?_
  · simp
    refine ⟨by omega, ?_⟩
    have : rowL (List.replicate n 0) = .lst (List.replicate n (D.tup [.int 0, .int 1])) := by
      unfold rowL
      rw [List.map_replicate]; rfl
    rw [this] at q
    exact q
  · simp only [List.nil_append]
    have noow : NoOw [.va .tin, .va (.int (n : Nat)), .va (.int (m : Nat)), .no, .no, .no, .no, .no, .no] := fun j s hj => by
      have hm := List.mem_of_getElem? hj
      simp at hm
      rcases hm with rfl | rfl | rfl | rfl <;> rfl
    refine ⟨noow, by decide, mat (List.replicate n (List.replicate n 0)), ?_, ?_⟩
    · rw [rows_tup, List.map_replicate]
      congr 1
      rw [List.map_const', List.length_range]
    · have d0 : dim 12 n (List.replicate n (List.replicate n 0)) := ⟨by simp, fun r hr => by
        rw [List.mem_replicate] at hr
        rw [hr.2]
        refine ⟨by simp, fun x hx => ?_⟩
        rw [List.mem_replicate] at hx
        rw [hx.2]
        exact Sb.zero⟩
      simp only [tm_rest, nSeq, nFor, eN, dVar, List.getElem?_cons_zero, List.getElem?_cons_succ, Option.some.injEq, Sl.va.injEq, exists_eq_left']
      refine ⟨n, rfl, by omega, ?_⟩
      refine forN_by (fun k ρ c' M => ∃ s5 s6 A, ρ = [.va .tin, .va (.int (n : Nat)), .va (.int (m : Nat)), .va (.int (kind : Nat)), .no, s5, s6, .no, .no] ∧ M = mat A ∧ dim 12 n A ∧ c + 1 ≤ c' ∧ c' ≤ c + 1 + 2 * k) n 0 _ _ _ ⟨.no, .no, _, rfl, rfl, d0, Nat.le_refl _, by omega⟩ ?_ ?_
      · rintro j ρ c2 M _ hj ⟨s5, s6, A, rfl, rfl, dA, c21, c22⟩ N' hN'
        simp only [List.set]
        refine ⟨.int (n : Nat), rfl, n, rfl, by omega, ?_⟩
        refine forN_by (fun k ρ c' M => ∃ s5 A, ρ = [.va .tin, .va (.int (n : Nat)), .va (.int (m : Nat)), .va (.int (kind : Nat)), .no, s5, .va (.int (j : Nat)), .no, .no] ∧ M = mat A ∧ dim 12 n A ∧ c2 ≤ c' ∧ c' ≤ c2 + k) n 0 _ _ _ ⟨s5, A, rfl, rfl, dA, Nat.le_refl _, by omega⟩ ?_ ?_
        · rintro k ρ c3 M _ hk ⟨s5', A, rfl, rfl, dA, c31, c32⟩ N2 hN2
          simp only [List.set, nIf]
          refine tm_ok fun b => ?_
          cases b with
          | false =>
            simp only [Bool.false_eq_true, if_false, nSkip]
            exact hN2 _ _ _ ⟨_, A, rfl, rfl, dA, c31, by omega⟩
          | true =>
            obtain ⟨r, hr⟩ : ∃ r, A[j]? = some r := ⟨_, List.getElem?_eq_getElem (by rw [dA.1]; omega)⟩
            have rl := (dA.2 r (List.mem_of_getElem? hr)).1
            simp only [if_true, nPut, dFnN, dCons, dNil, dVar, List.getElem?_cons_zero, List.getElem?_cons_succ, Option.some.injEq, Sl.va.injEq, exists_eq_left', List.length]
            refine ⟨.tin, rfl, rfl, rfl, by omega, fun q hq => ⟨j, r.map frD, rfl, mat_get hr, k, rfl, by rw [List.length_map, rl]; omega, ?_⟩⟩
            rw [mat_set]
            have sq : Sb 6 12 q := by
              have := (whole_sb q hq).scale (k := 6)
              simpa using this
            exact hN2 _ _ _ ⟨_, _, rfl, rfl, dA.set hr sq, by omega, by omega⟩
        · rintro ρ c3 M ⟨s5', A, rfl, rfl, dA, c31, c32⟩
          exact hN' _ _ _ ⟨s5', _, A, rfl, rfl, dA, by omega, by omega⟩
      · rintro ρ c2 M ⟨s5, s6, A, rfl, rfl, dA, c21, c22⟩
        simp only [nSet, eN]
        refine machine_moves h2 h3 (by omega) fun B c3 b1 b2 c31 c32 => ?_
        simp only [List.set]
        refine machine_last (nn := n) h1 h2 dA (by omega) (by omega) fun A' c4 dA' c41 c42 => ?_
        exact h A' B c4 ⟨dA'.1, b1, dA'.2, b2⟩ (by omega) (by omega)
end Pd
end
section
set_option Elab.async false
set_option linter.all false
set_option maxRecDepth 100000
set_option maxHeartbeats 4000000
set_option exponentiation.threshold 10000
/-! PV5: drawn machines: derivations; shifted. -/
namespace Pd
open PySem PyProof.Rows L2 RZ Ma Mc
open PySem.Spec hiding Row
abbrev N_law_machine : List Str := ["_law_tin", "_law_n_so", "_law_m_so", "_law_kind_so", "_law_steps_so", "_law_k", "_law_j", "_law_moves_so", "_law_row_so"]
theorem nx_machine : FnScope N_law_machine ["_law_tin", "_law_n_so", "_law_m_so"] (defScope (top 68)) := ⟨rfl, rfl, rfl, by decide +kernel, rfl, by decide +kernel, by decide +kernel⟩
section
variable {P : Program} {w : World} {K : PySem.W.Frag} {mg : Str → Option Value} {base : Heap} {k : Nat}
theorem d_law_machine (F : Fr0 K mg) (D : Dfn K mg "_law_machine" 68 ["_law_tin", "_law_n_so", "_law_m_so"]) {j1 j2 j3 : Nat} (k_law_take : Kn P w K mg base "_law_take" j1 ["_law_tin", "_law_below_so"] sp_law_take) (l1 : j1 ≤ k) (k_law_of : Kn P w K mg base "_law_of" j2 ["_law_tin", "_law_goods_so"] sp_law_of) (l2 : j2 ≤ k)
    (k_law_whole : Kn P w K mg base "_law_whole" j3 ["_law_tin"] sp_law_whole) (l3 : j3 ≤ k) : Kn P w K mg base "_law_machine" (k + 1) ["_law_tin", "_law_n_so", "_law_m_so"] sp_law_machine :=
  have nd := nx_machine.nd
  knD D nx_machine t_machine (fun ds c Q _ h => hs_law_machine ds c Q h) fun f cdv A outer s H E τ G c hr =>
    pss_startPar (i := 4) (j := 3) rfl nd rfl rfl (by decide) rfl rfl (ppd_callK k_law_take rfl hr (by omega) (by rfl) (pad_cons (ppd_var (pv 0)) (pad_cons ppd_int pad_nil)))
      (pnd_lc rfl nd rfl (pid_strong (pid_range1 (by rfl) F.range (pad_cons (ppd_var (pv 1)) pad_nil))) (blkOk_by (own := [("_law_k", 5)]) (N := N_law_machine) (sc := defScope (top 68)) (by decide +kernel)) (fun _ _ _ _ _ => (pg_name (i := 5) nd rfl (by first | exact Or.inl rfl | exact Or.inr rfl))) (gok_name 5) (by decide) (fun _ _ _ _ _ => ptsd_nil)
        (fun _ _ _ _ _ => (pfd_rep (pp_of (pfd_lst (pad_cons (ppd_tup (pad_cons ppd_int (pad_cons ppd_int pad_nil))) pad_nil))) (ppd_var (pv 1))))) (by rfl)
      (pnss_cons (pns_for (j := 6) PassesOwn.never rfl (by rfl) F.range (pn_of (ppd_var (pv 1))) nd rfl (by decide) (by first | exact Or.inl rfl | exact Or.inr rfl)
          (pnss_one (pns_for (j := 5) PassesOwn.never rfl (by rfl) F.range (pn_of (ppd_var (pv 1))) nd rfl (by decide) (by first | exact Or.inl rfl | exact Or.inr rfl)
            (pnss_one (pns_if (ptd_w (pwd_or (Cmp.pt (c_eq hr.units (pb_of (ppd_var (pv 3))) (pb_of ppd_int))) (pwd_or (ptd_w (pwd_and (Cmp.pt (c_eq hr.units (pb_of (ppd_var (pv 6))) (pb_of (ppd_var (pv 5))))) (pwd_and1 (Cmp.pt (c_in (ppd_var (pv 3)) (ppd_tup (pad_cons ppd_int (pad_cons ppd_int pad_nil))) (by rfl)))))) (pwd_or (Cmp.pt (c_eq hr.units (pb_of (ppd_var (pv 6))) (pb_of (ppd_add (pb_of (ppd_var (pv 5))) (pb_of ppd_int))))) (pwd_or1 (ptd_w (pwd_and (Cmp.pt (c_eq hr.units (pb_of (ppd_var (pv 3))) (pb_of ppd_int))) (pwd_and1 (Cmp.pt (c_eq hr.units (pb_of (ppd_var (pv 5))) (pb_of (ppd_add (pb_of (ppd_var (pv 6))) (pb_of ppd_int)))))))))))))
              (pnss_one (pns_put (pv 4) (ppd_var (pv 6)) (ppd_var (pv 5)) (pn_of (ppd_callK k_law_whole rfl hr (by omega) (by rfl) (pad_cons (ppd_var (pv 0)) pad_nil))))) pnss_nil)))))
      (pnss_cons (pns_setLc (j := 7) (by decide) rfl nd rfl rfl (sw_true rfl rfl rfl (by decide +kernel)) rfl (pid_strong (pid_range1 (by rfl) F.range (pad_cons (ppd_var (pv 1)) pad_nil))) (blkOk_by (own := [("_law_k", 5)]) (N := N_law_machine) (sc := defScope (top 68)) (by decide +kernel)) (fun _ _ _ _ _ => (pg_name (i := 5) nd rfl (by first | exact Or.inl rfl | exact Or.inr rfl))) (gok_name 5) (by decide) (fun _ _ _ _ _ => ptsd_nil)
        (fun _ _ _ _ _ => (pp_of (pfd_lc rfl nd rfl (pid_strong (pid_range1 (by rfl) F.range (pad_cons (ppd_var (pv 2)) pad_nil))) (blkOk_by (own := [("_law_j", 6)]) (by rfl)) (fun _ _ _ _ _ => (pg_name (i := 6) nd rfl (by first | exact Or.inl rfl | exact Or.inr rfl))) (gok_name 6) (by decide) (fun _ _ _ _ _ => ptsd_nil) (fun _ _ _ _ _ => (ppd_callK k_law_of rfl hr (by omega) (by rfl) (pad_cons (ppd_var (pv 0)) (pad_cons (pp_of (pfd_lst (pad_cons (ppd_tup (pad_cons ppd_int (pad_cons ppd_int pad_nil))) (pad_cons (ppd_tup (pad_cons ppd_int (pad_cons ppd_int pad_nil))) (pad_cons (ppd_tup (pad_cons ppd_int (pad_cons ppd_int pad_nil))) (pad_cons (ppd_tup (pad_cons (ppd_neg ppd_int) (pad_cons ppd_int pad_nil))) (pad_cons (ppd_tup (pad_cons ppd_int (pad_cons ppd_int pad_nil))) pad_nil))))))) pad_nil))))))))
      (pnss_cons (pns_if (Cmp.pt (c_eq hr.units (pb_of (ppd_callK k_law_take rfl hr (by omega) (by rfl) (pad_cons (ppd_var (pv 0)) (pad_cons ppd_int pad_nil)))) (pb_of ppd_int)))
          (pnss_one (pns_put (pv 4) ppd_int ppd_int (pn_of (ppd_callK k_law_of rfl hr (by omega) (by rfl) (pad_cons (ppd_var (pv 0)) (pad_cons (pp_of (pfd_lst (pad_cons (ppd_tup (pad_cons ppd_int (pad_cons ppd_int pad_nil))) (pad_cons (ppd_tup (pad_cons (ppd_neg ppd_int) (pad_cons ppd_int pad_nil))) (pad_cons (ppd_tup (pad_cons ppd_int (pad_cons ppd_int pad_nil))) pad_nil))))) pad_nil)))))) pnss_nil)
      (pnss_frz (pssd_one (psd_ret (ppd_tup (pad_cons (ppd_tuple (by rfl) F.tuple (pab_cons (pb_of (pp_of (pfd_lc rfl nd rfl (pid_strong (pid_seq (ppd_var (pv 4)))) (blkOk_by (own := [("_law_row_so", 8)]) (N := N_law_machine) (sc := defScope (top 68)) (by decide +kernel)) (fun _ _ _ _ _ => (pg_name (i := 8) nd rfl (by first | exact Or.inl rfl | exact Or.inr rfl))) (gok_name 8) (by decide) (fun _ _ _ _ _ => ptsd_nil) (fun _ _ _ _ _ => (ppd_tuple (by rfl) F.tuple (pab_cons (pb_of (ppd_var (pv 8))) pab_nil)))))) pab_nil)) (pad_cons (ppd_tuple (by rfl) F.tuple (pab_cons (pb_of (pp_of (pfd_lc rfl nd rfl (pid_strong (pid_seq (ppd_var (pv 7)))) (blkOk_by (own := [("_law_row_so", 8)]) (N := N_law_machine) (sc := defScope (top 68)) (by decide +kernel)) (fun _ _ _ _ _ => (pg_name (i := 8) nd rfl (by first | exact Or.inl rfl | exact Or.inr rfl))) (gok_name 8) (by decide) (fun _ _ _ _ _ => ptsd_nil) (fun _ _ _ _ _ => (ppd_tuple (by rfl) F.tuple (pab_cons (pb_of (ppd_var (pv 8))) pab_nil)))))) pab_nil)) pad_nil)))))))))
end
end Pd
end
section
set_option Elab.async false
set_option linter.all false
set_option maxRecDepth 100000
set_option maxHeartbeats 4000000
set_option exponentiation.threshold 10000
/-! PV6: machines with something put on the diagonal. -/
namespace Pd
open PySem PyProof.Rows L2 RZ Ma Mc
open PySem.Spec hiding Row
def ts_lc : TD := (dLc (iSeq (dBin ixD (dVar 1) (dC (.int 0)))) (gN 3) yesD (dCall list1 (dCons (dVar 3) dNil)) [3])
def ts_val : TD := (dFnN 2 sp_law_sum (dCons (dBin ixD (dBin ixD (dVar 2) (dVar 4)) (dVar 4)) (dCons (dFnN 2 sp_law_of (dCons (dVar 0) (dCons (dLst (dCons (dTup (dCons (dC (.int 1)) (dCons (dC (.int 1)) dNil))) (dCons (dTup (dCons (dC (.int 0)) (dCons (dC (.int 1)) dNil))) (dCons (dTup (dCons (dUn negD (dC (.int 1))) (dCons (dC (.int 1)) dNil))) (dCons (dTup (dCons (dC (.int 1)) (dCons (dC (.int 2)) dNil))) (dCons (dTup (dCons (dC (.int 2)) (dCons (dC (.int 1)) dNil))) dNil)))))) dNil))) dNil)))
def ts_ret : TSD := (sRet (dTup (dCons (dCall tuple1 (dCons (dLc (iSeq (dVar 2)) (gN 3) yesD (dCall tuple1 (dCons (dVar 3) dNil)) [3]) dNil)) (dCons (dBin ixD (dVar 1) (dC (.int 1))) dNil))))
def ts_rest : TSN := nSeq (nFor 4 (eR 2 (dCall len1 (dCons (dVar 2) dNil))) (nPut (dVar 4) (dVar 4) (eR 2 ts_val))) (nFrz 2 ts_ret)
def t_shifted : TSD := fun ρ c N R => ts_lc ρ c fun d c1 => NoOw ρ ∧ 2 < ρ.length ∧ ∃ M, d = .lst (M.map D.lst) ∧ ts_rest (ρ.set 2 .no) c1 M (fun _ _ _ => False) R
def shiftL : List Rat := [1, 0, -1, 1 / 2, 2]
theorem shift_eq : shiftL.map frD = [.tup [.int 1, .int 1], .tup [.int 0, .int 1], .tup [.int (-1), .int 1], .tup [.int 1, .int 2], .tup [.int 2, .int 1]] := by
  have e1 : (1 / 2 : Rat).num = 1 ∧ (1 / 2 : Rat).den = 2 := by decide +kernel
  simp only [shiftL, List.map_cons, List.map_nil, frD, e1.1, e1.2]
  rfl
theorem shift_sb : ∀ q ∈ shiftL, Sb 6 12 q := fun q hq => sb_of ((by decide +kernel : ∀ q ∈ shiftL, (q * ((6 : Nat) : Rat)).den = 1 ∧ (q * ((6 : Nat) : Rat)).num.natAbs ≤ 12) q hq)
/-- rows below k have their sum -/
def dimK (n k : Nat) (A : List Row) : Prop := A.length = n ∧ ∀ (i : Nat) (r : Row), A[i]? = some r → r.length = n ∧ ∀ x ∈ r, Sb 6 (if i < k then 24 else 12) x
theorem hs_law_shifted (ds : List D) (c : Nat) (Q : D → Nat → Prop) (h : sp_law_shifted ds c Q) : t_shifted (startR ["_law_tin", "_law_machine_so", "_law_steps_so", "_law_row_so", "_law_k"] ds) c (fun _ c' => Q .non c') Q := by
  obtain ⟨n, m, A, B, rfl, h1, h2, h3, MO, h4, h⟩ := h
  have hb0 : (6 : Nat) < 2 ^ 4400 ∧ (24 : Nat) < 2 ^ 4400 := by decide +kernel
  simp only [t_shifted, startR, ts_lc, dLc, iSeq, dBin, dVar, dC, machD, List.map, List.length, List.replicate, List.append, List.set, HAppend.hAppend, Append.append, List.getElem?_cons_zero, List.getElem?_cons_succ, Option.some.injEq, Sl.va.injEq, exists_eq_left', ixD, forgetR]
  refine ⟨_, rfl, ?_⟩
  simp only [rowsT]
  refine ⟨by rw [List.length_map, MO.la]; omega, lc_map rowT rowL A [] _ (fun x hx Q' q => ?_) ?_⟩
  · simp only [gN, dCall, dCons, dNil, dVar, List.set, List.getElem?_cons_zero, List.getElem?_cons_succ, Option.some.injEq, Sl.va.injEq, exists_eq_left']
    exact q
  · simp only [List.nil_append]
    have noow : NoOw [.va .tin, .va (.tup [.tup (A.map rowT), .tup (B.map rowT)]), .no, .no, .no] := fun j s hj => by
      have hm := List.mem_of_getElem? hj
      simp at hm
      rcases hm with rfl | rfl | rfl <;> rfl
    refine ⟨noow, by decide, mat A, by rw [rows_tup], ?_⟩
    have d0 : dimK n 0 A := ⟨MO.la, fun i r hr => by
      have := MO.ra r (List.mem_of_getElem? hr)
      exact ⟨this.1, by simpa using this.2⟩⟩
    simp only [ts_rest, nSeq, nFor, eR, dCall, dCons, dNil, dVar, List.set, List.getElem?_cons_zero, List.getElem?_cons_succ, Option.some.injEq, Sl.va.injEq, exists_eq_left', len1, rows_tup]
    refine ⟨.inl ⟨_, rfl⟩, n, by rw [List.length_map, MO.la], by omega, ?_⟩
    refine forN_by (fun k ρ c' M => ∃ s4 A', ρ = [.va .tin, .va (.tup [.tup (A.map rowT), .tup (B.map rowT)]), .no, .no, s4] ∧ M = mat A' ∧ dimK n k A' ∧ c ≤ c' ∧ c' ≤ c + k) n 0 _ _ _ ⟨.no, A, rfl, rfl, d0, Nat.le_refl _, by omega⟩ ?_ ?_
    · rintro k ρ c2 M _ hk ⟨s4, A', rfl, rfl, dA, c21, c22⟩ N' hN'
      obtain ⟨r, hr⟩ : ∃ r, A'[k]? = some r := ⟨_, List.getElem?_eq_getElem (by rw [dA.1]; omega)⟩
      obtain ⟨rl, rs⟩ := dA.2 k r hr
      rw [if_neg (Nat.lt_irrefl k)] at rs
      obtain ⟨p, hp⟩ : ∃ p, r[k]? = some p := ⟨_, List.getElem?_eq_getElem (by omega)⟩
      have ps := rs p (List.mem_of_getElem? hp)
      simp only [nPut, eR, List.set, rows_tup]
      refine ⟨.lst (A'.map rowL), rfl, .int (k : Nat), rfl, rowL r, L2.atI_nat (by rw [List.getElem?_map, hr]; rfl), .int (k : Nat), rfl, frD p, L2.atI_nat (by rw [List.getElem?_map, hp]; rfl), .tin, rfl, ?_⟩
      simp only [dLst, dTup, dCons, dNil, dC, dUn, negD, List.length]
      refine ⟨by decide, by decide, by decide, by decide, by decide, by decide, by trivial, shiftL.map frD, by rw [shift_eq], by decide, by decide, by omega, fun d hd => ?_⟩
      obtain ⟨q, hq, rfl⟩ := List.mem_map.mp hd
      have qs := shift_sb q hq
      refine ⟨by trivial, p, q, rfl, ps.sm (by decide) hb0.1 (by omega), qs.sm (by decide) hb0.1 (by omega), .inr ⟨[(p + q).num, ((p + q).den : Int)], rfl⟩, .int (k : Nat), rfl, k, r.map frD, rfl, mat_get hr, .int (k : Nat), rfl, k, rfl, by rw [List.length_map, rl]; omega, ?_⟩
      rw [mat_set]
      refine hN' _ _ _ ⟨_, _, rfl, rfl, ⟨by rw [List.length_set]; exact dA.1, fun i s hs => ?_⟩, by omega, by omega⟩
      rcases getset hs with ⟨rfl, rfl⟩ | ⟨ni, hs⟩
      · refine ⟨by rw [List.length_set]; exact rl, fun x hx => ?_⟩
        rw [if_pos (Nat.lt_succ_self _)]
        rcases List.mem_or_eq_of_mem_set hx with hx | rfl
        · exact (rs x hx).mono (by decide)
        · exact ps.add qs
      · obtain ⟨a1, a2⟩ := dA.2 i s hs
        refine ⟨a1, fun x hx => ?_⟩
        have := a2 x hx
        by_cases hik : i < k
        · rw [if_pos (by omega)]
          rw [if_pos hik] at this
          exact this
        · rw [if_neg (by omega)]
          rw [if_neg hik] at this
          exact this
    · rintro ρ c2 M ⟨s4, A', rfl, rfl, dA, c21, c22⟩
      simp only [nFrz, List.set, rows_tup, ts_ret, sRet, dTup, dCall, dCons, dNil, dLc, iSeq, dVar, dBin, dC, forgetR, List.getElem?_cons_zero, List.getElem?_cons_succ, Option.some.injEq, Sl.va.injEq, exists_eq_left']
      refine ⟨by rw [List.length_map, dA.1]; omega, lc_tup 3 (by simp) A' ?_⟩
      refine ⟨.tup (B.map rowT), rfl, by simp, ?_⟩
      have := h A' c2 ⟨dA.1, MO.lb, fun r hr => ?_, MO.rb⟩ c21 (by omega)
      · exact this
      · obtain ⟨i, hi, e⟩ := List.mem_iff_getElem.mp hr
        obtain ⟨a1, a2⟩ := dA.2 i r (by rw [List.getElem?_eq_getElem hi, e])
        refine ⟨a1, fun x hx => ?_⟩
        have := a2 x hx
        rw [if_pos (by rw [← dA.1]; simpa using hi)] at this
        exact this
abbrev N_law_shifted : List Str := ["_law_tin", "_law_machine_so", "_law_steps_so", "_law_row_so", "_law_k"]
theorem nx_shifted : FnScope N_law_shifted ["_law_tin", "_law_machine_so"] (defScope (top 73)) := ⟨rfl, rfl, rfl, by decide +kernel, rfl, by decide +kernel, by decide +kernel⟩
section
variable {P : Program} {w : World} {K : PySem.W.Frag} {mg : Str → Option Value} {base : Heap} {k : Nat}
theorem d_law_shifted (F : Fr0 K mg) (D : Dfn K mg "_law_shifted" 73 ["_law_tin", "_law_machine_so"]) {j1 j2 : Nat} (k_law_sum : Kn P w K mg base "_law_sum" j1 ["_law_one_so", "_law_two_so"] sp_law_sum) (l1 : j1 ≤ k) (k_law_of : Kn P w K mg base "_law_of" j2 ["_law_tin", "_law_goods_so"] sp_law_of) (l2 : j2 ≤ k) :
    Kn P w K mg base "_law_shifted" (k + 1) ["_law_tin", "_law_machine_so"] sp_law_shifted :=
  have nd := nx_shifted.nd
  knD D nx_shifted t_shifted (fun ds c Q _ h => hs_law_shifted ds c Q h) fun f cdv A outer s H E τ G c hr =>
    pss_startLc (i := 2) rfl nd rfl rfl (sw_true rfl rfl rfl (by decide +kernel)) rfl (pid_strong (pid_seq (ppd_ix (pb_of (ppd_var (pv 1))) ppd_int))) (blkOk_by (own := [("_law_row_so", 3)]) (N := N_law_shifted) (sc := defScope (top 73)) (by decide +kernel)) (fun _ _ _ _ _ => (pg_name (i := 3) nd rfl (by first | exact Or.inl rfl | exact Or.inr rfl))) (gok_name 3) (by decide) (fun _ _ _ _ _ => ptsd_nil)
        (fun _ _ _ _ _ => (pfd_list (by rfl) F.list (pab_cons (pb_of (ppd_var (pv 3))) pab_nil)))
      (pnss_cons (pns_for (j := 4) PassesOwn.never rfl (by rfl) F.range (pn_read (ppd_len (by rfl) F.len (pab_cons (pb_of (ppd_var (pv 2))) pab_nil))) nd rfl (by decide) (by first | exact Or.inl rfl | exact Or.inr rfl)
          (pnss_one (pns_put (pv 2) (ppd_var (pv 4)) (ppd_var (pv 4)) (pn_read (ppd_callK k_law_sum rfl hr (by omega) (by rfl) (pad_cons (ppd_ix (pb_of (ppd_ix (pb_of (ppd_var (pv 2))) (ppd_var (pv 4)))) (ppd_var (pv 4))) (pad_cons (ppd_callK k_law_of rfl hr (by omega) (by rfl) (pad_cons (ppd_var (pv 0)) (pad_cons (pp_of (pfd_lst (pad_cons (ppd_tup (pad_cons ppd_int (pad_cons ppd_int pad_nil))) (pad_cons (ppd_tup (pad_cons ppd_int (pad_cons ppd_int pad_nil))) (pad_cons (ppd_tup (pad_cons (ppd_neg ppd_int) (pad_cons ppd_int pad_nil))) (pad_cons (ppd_tup (pad_cons ppd_int (pad_cons ppd_int pad_nil))) (pad_cons (ppd_tup (pad_cons ppd_int (pad_cons ppd_int pad_nil))) pad_nil))))))) pad_nil))) pad_nil)))))))
      (pnss_frz (pssd_one (psd_ret (ppd_tup (pad_cons (ppd_tuple (by rfl) F.tuple (pab_cons (pb_of (pp_of (pfd_lc rfl nd rfl (pid_strong (pid_seq (ppd_var (pv 2)))) (blkOk_by (own := [("_law_row_so", 3)]) (N := N_law_shifted) (sc := defScope (top 73)) (by decide +kernel)) (fun _ _ _ _ _ => (pg_name (i := 3) nd rfl (by first | exact Or.inl rfl | exact Or.inr rfl))) (gok_name 3) (by decide) (fun _ _ _ _ _ => ptsd_nil) (fun _ _ _ _ _ => (ppd_tuple (by rfl) F.tuple (pab_cons (pb_of (ppd_var (pv 3))) pab_nil)))))) pab_nil)) (pad_cons (ppd_ix (pb_of (ppd_var (pv 1))) ppd_int) pad_nil)))))))
end
end Pd
end
section
set_option Elab.async false
set_option linter.all false
set_option maxRecDepth 100000
set_option maxHeartbeats 4000000
set_option exponentiation.threshold 10000
/-! PV7: the pieces by hand. -/
namespace Pd
open Ma Mc L2
/-- the fit, computed -/
def fitC (n m : Nat) (L G : List Row) (a b : Nat) : Bool := decide ((lawSteps (wideF (colsP L G a b) (nextP L a b)) (n + m + n)).2.length = (lawSteps (colsP L G a b) (n + m)).2.length)
theorem fit_c {n m : Nat} {L G : List Row} (p : PcB n m L G) {a b : Nat} (hab : a < b) (hb : b ≤ G.length) : fitB n m L G a b = fitC n m L G a b := by
  unfold fitB fitC
  have h := rank_iff (w := n + m) (n := n) (cols := colsP L G a b) (nexts := nextP L a b) (by rw [cols_len p hab hb, next_len p hab hb]) (fun r hr => (cols_bnd p hr).1) (fun r hr => (p.ln r (next_mem p hr)).1)
  exact decide_eq_decide.mpr h.symm
def L1 : List Row := [[1], [2], [5], [15]]
def G1 : List Row := [[0], [1], [0]]
def L2' : List Row := [[0], [1], [1], [1], [2], [2], [2], [4]]
def G2 : List Row := [[1], [0], [0], [2], [1], [1], [0]]
def sbB (D M : Nat) (q : Rat) : Bool := decide ((q * (D : Rat)).den = 1) && decide ((q * (D : Rat)).num.natAbs ≤ M)
theorem sb_b {D M : Nat} {q : Rat} (h : sbB D M q = true) : Sb D M q := by
  unfold sbB at h
  rw [Bool.and_eq_true, decide_eq_true_eq, decide_eq_true_eq] at h
  exact sb_of h
def rowsB (n D M : Nat) (L : List Row) : Bool := L.all fun r => decide (r.length = n) && r.all fun x => sbB D M x
theorem rows_b {n D M : Nat} {L : List Row} (h : rowsB n D M L = true) : ∀ r ∈ L, r.length = n ∧ ∀ x ∈ r, Sb D M x := fun r hr => by
  unfold rowsB at h
  have := List.all_eq_true.mp h r hr
  rw [Bool.and_eq_true, decide_eq_true_eq] at this
  exact ⟨this.1, fun x hx => sb_b (List.all_eq_true.mp this.2 x hx)⟩
theorem p1 : PcB 1 1 L1 G1 := ⟨by decide, by decide, by decide, rfl, by decide, by decide, rows_b (by decide +kernel), rows_b (by decide +kernel)⟩
theorem p2 : PcB 1 1 L2' G2 := ⟨by decide, by decide, by decide, rfl, by decide, by decide, rows_b (by decide +kernel), rows_b (by decide +kernel)⟩
theorem f1 {a b : Nat} {v : Bool} (hab : a < b) (hb : b ≤ 3) (h : fitC 1 1 L1 G1 a b = v) : fitB 1 1 L1 G1 a b = v := (fit_c p1 hab hb).trans h
theorem f2 {a b : Nat} {v : Bool} (hab : a < b) (hb : b ≤ 7) (h : fitC 1 1 L2' G2 a b = v) : fitB 1 1 L2' G2 a b = v := (fit_c p2 hab hb).trans h
/-- the longest from a, computed -/
def frC (F : Nat → Nat → Bool) (N : Nat) : Nat → List Nat → Bool
  | a, [] => decide (a = N)
  | a, b :: E => decide (a < b) && decide (b ≤ N) && ((List.range (N + 1)).all fun x => !(decide (a < x) && decide (x ≤ b)) || F a x) && (!decide (b < N) || !F a (b + 1)) && frC F N b E
theorem fr_c {F F' : Nat → Nat → Bool} {N : Nat} (hF : ∀ a b, a < b → b ≤ N → F' a b = F a b) : ∀ {E : List Nat} {a : Nat}, frC F N a E = true → Fr F' N a E
  | [], a, h => by
    have : a = N := by simpa [frC] using h
    subst this
    exact .nil
  | b :: E, a, h => by
    simp only [frC, Bool.and_eq_true, decide_eq_true_eq] at h
    obtain ⟨⟨⟨⟨h1, h2⟩, h3⟩, h4⟩, h5⟩ := h
    refine .cons h1 h2 (fun x x1 x2 => ?_) (fun hb => ?_) (fr_c hF h5)
    · have := List.all_eq_true.mp h3 x (List.mem_range.mpr (by omega))
      rw [hF a x x1 (by omega)]
      simpa [x1, x2] using this
    · rw [hF a (b + 1) (by omega) hb]
      simpa [hb] using h4
def bkC (F : Nat → Nat → Bool) : Nat → List Nat → Bool
  | c, [] => decide (c = 0)
  | c, b :: E => decide (b < c) && ((List.range c).all fun x => !(decide (b ≤ x)) || F x c) && (!decide (0 < b) || !F (b - 1) c) && bkC F b E
theorem bk_c {F F' : Nat → Nat → Bool} {N : Nat} (hF : ∀ a b, a < b → b ≤ N → F' a b = F a b) : ∀ {E : List Nat} {c : Nat}, c ≤ N → bkC F c E = true → Bk F' c E
  | [], c, _, h => by
    have : c = 0 := by simpa [bkC] using h
    subst this
    exact .nil
  | b :: E, c, hc, h => by
    simp only [bkC, Bool.and_eq_true, decide_eq_true_eq] at h
    obtain ⟨⟨⟨h1, h3⟩, h4⟩, h5⟩ := h
    refine .cons h1 (fun x x1 x2 => ?_) (fun hb => ?_) (bk_c hF (by omega) h5)
    · have := List.all_eq_true.mp h3 x (List.mem_range.mpr x2)
      rw [hF x c x2 hc]
      simpa [x1] using this
    · rw [hF (b - 1) c (by omega) hc]
      simpa [hb] using h4
theorem e1 : Fr (fitB 1 1 L1 G1) 3 0 [2, 3] := fr_c (F := fitC 1 1 L1 G1) (fun a b => fit_c p1) (by decide +kernel)
theorem b1 : Bk (fitB 1 1 L1 G1) 3 [1, 0] := bk_c (F := fitC 1 1 L1 G1) (fun a b => fit_c p1) (Nat.le_refl _) (by decide +kernel)
theorem e2 : Fr (fitB 1 1 L2' G2) 7 0 [3, 6, 7] := fr_c (F := fitC 1 1 L2' G2) (fun a b => fit_c p2) (by decide +kernel)
theorem b2 : Bk (fitB 1 1 L2' G2) 7 [4, 1, 0] := bk_c (F := fitC 1 1 L2' G2) (fun a b => fit_c p2) (Nat.le_refl _) (by decide +kernel)
theorem all1 : AllFit 1 1 L1 G1 := all_of_fr (pc_of p1).1 e1
theorem all2 : AllFit 1 1 L2' G2 := all_of_fr (pc_of p2).1 e2
theorem su1 : ¬ SureEx (fitB 1 1 L2' G2) 7 [3, 6, 7] [4, 1, 0] 2 5 := by
  rintro ⟨low, high, h1, h2, h3, h4, h5, h6⟩
  have hl : low = 0 ∨ low = 1 ∨ low = 2 := by omega
  have hh : high = 6 ∨ high = 7 := by omega
  have k1 : fitB 1 1 L2' G2 1 6 = false := f2 (by decide) (by decide) (by decide +kernel)
  have k2 : fitB 1 1 L2' G2 2 6 = false := f2 (by decide) (by decide) (by decide +kernel)
  rcases hl with rfl | rfl | rfl <;> rcases hh with rfl | rfl
  · revert h5; decide
  · revert h5; decide
  · rw [k1] at h6; cases h6
  · revert h5; decide
  · rw [k2] at h6; cases h6
  · revert h5; decide
theorem su2 : SureEx (fitB 1 1 L2' G2) 7 [3, 6, 7] [4, 1, 0] 2 3 := ⟨1, 4, by decide, by decide, .inr (by decide), .inr (by decide), by decide, f2 (by decide) (by decide) (by decide +kernel)⟩
theorem co1 : couldB [3, 6, 7] [4, 1, 0] 5 = true := by decide
end Pd
end
section
set_option Elab.async false
set_option linter.all false
set_option maxRecDepth 100000
set_option maxHeartbeats 4000000
set_option exponentiation.threshold 10000
/-! PV8: by hand. -/
namespace Pd
open PySem PyProof.Rows L2 RZ Ma Mc
open PySem.Spec hiding Row
def t_law_by_hand_right (sp_fewest_changes sp_law_heard sp_sure_change sp_could_change sp_law_same : SpD) : TSD := (sSeq (sSet .va 0 (dTup (dCons (dTup (dCons (dTup (dCons (dC (.int 1)) (dCons (dC (.int 1)) dNil))) dNil)) (dCons (dTup (dCons (dTup (dCons (dC (.int 2)) (dCons (dC (.int 1)) dNil))) dNil)) (dCons (dTup (dCons (dTup (dCons (dC (.int 5)) (dCons (dC (.int 1)) dNil))) dNil)) (dCons (dTup (dCons (dTup (dCons (dC (.int 15)) (dCons (dC (.int 1)) dNil))) dNil)) dNil))))))
  (sSeq (sSet .va 1 (dTup (dCons (dVar 0) (dCons (dTup (dCons (dTup (dCons (dTup (dCons (dC (.int 0)) (dCons (dC (.int 1)) dNil))) dNil)) (dCons (dTup (dCons (dTup (dCons (dC (.int 1)) (dCons (dC (.int 1)) dNil))) dNil)) (dCons (dTup (dCons (dTup (dCons (dC (.int 0)) (dCons (dC (.int 1)) dNil))) dNil)) dNil)))) dNil))))
  (sSeq (sSet .va 2 (dTup (dCons (dCall tuple1 (dCons (dLc (iSeq (dTup (dCons (dC (.int 0)) (dCons (dC (.int 1)) (dCons (dC (.int 1)) (dCons (dC (.int 1)) (dCons (dC (.int 2)) (dCons (dC (.int 2)) (dCons (dC (.int 2)) (dCons (dC (.int 4)) dNil)))))))))) (gN 3) yesD (dTup (dCons (dTup (dCons (dVar 3) (dCons (dC (.int 1)) dNil))) dNil)) [3]) dNil)) (dCons (dCall tuple1 (dCons (dLc (iSeq (dTup (dCons (dC (.int 1)) (dCons (dC (.int 0)) (dCons (dC (.int 0)) (dCons (dC (.int 2)) (dCons (dC (.int 1)) (dCons (dC (.int 1)) (dCons (dC (.int 0)) dNil))))))))) (gN 3) yesD (dTup (dCons (dTup (dCons (dVar 3) (dCons (dC (.int 1)) dNil))) dNil)) [3]) dNil)) dNil))))
  (sSeq (sSet .va 4 (dLst (dCons (dFnN 1 sp_fewest_changes (dCons (dVar 1) dNil)) (dCons (dFnN 2 sp_law_heard (dCons (dC (.int 0)) (dCons (dVar 1) dNil))) (dCons (dFnN 2 sp_law_heard (dCons (dC (.int 1)) (dCons (dVar 1) dNil))) (dCons (dFnN 1 sp_fewest_changes (dCons (dVar 2) dNil)) (dCons (dFnN 2 sp_law_heard (dCons (dC (.int 0)) (dCons (dVar 2) dNil))) dNil)))))))
  (sSeq (sSet .va 4 (dBin addD (dVar 4) (dLst (dCons (dFnN 2 sp_law_heard (dCons (dC (.int 1)) (dCons (dVar 2) dNil))) dNil))))
  (sSeq (sSet .va 4 (dBin addD (dVar 4) (dLst (dCons (dFnN 3 sp_sure_change (dCons (dVar 2) (dCons (dC (.int 2)) (dCons (dC (.int 5)) dNil)))) (dCons (dFnN 3 sp_sure_change (dCons (dVar 2) (dCons (dC (.int 2)) (dCons (dC (.int 3)) dNil)))) (dCons (dFnN 2 sp_could_change (dCons (dVar 2) (dCons (dC (.int 5)) dNil))) dNil))))))
  (sRet (dFnN 2 sp_law_same (dCons (dVar 4) (dCons (dLst (dCons (dC (.int 1)) (dCons (dTup (dCons (dC (.int 1)) dNil)) (dCons (dTup (dCons (dC (.int 2)) dNil)) (dCons (dC (.int 2)) (dCons (dTup (dCons (dC (.int 1)) (dCons (dC (.int 4)) dNil))) (dCons (dTup (dCons (dC (.int 3)) (dCons (dC (.int 6)) dNil))) (dCons (dC (.bl true)) (dCons (dC (.bl false)) (dCons (dC (.bl true)) dNil)))))))))) dNil))))))))))
def sp_law_by_hand_right : SpD := fun ds c Q => ds = [] ∧ Q (.bl true) c
theorem hs_law_by_hand_right (ds : List D) (c : Nat) (Q : D → Nat → Prop) (h : sp_law_by_hand_right ds c Q) : t_law_by_hand_right sp_fewest_changes sp_law_heard sp_sure_change sp_could_change (sp_law_same 6) (startR ["_law_line_so", "_law_first_so", "_law_twice_so", "_law_k", "_law_got"] ds) c (fun _ c' => Q .non c') Q := by
  obtain ⟨rfl, h⟩ := h
  have E1 : D.tup [D.tup [D.tup [D.tup [D.int 1, D.int 1]], D.tup [D.tup [D.int 2, D.int 1]], D.tup [D.tup [D.int 5, D.int 1]], D.tup [D.tup [D.int 15, D.int 1]]], D.tup [D.tup [D.tup [D.int 0, D.int 1]], D.tup [D.tup [D.int 1, D.int 1]], D.tup [D.tup [D.int 0, D.int 1]]]] = pieceT L1 G1 := rfl
  simp [t_law_by_hand_right, lcT, -D.tup.injEq, -D.int.injEq]
  have E2 : D.tup [D.tup [D.tup [D.tup [D.int 0, D.int 1]], D.tup [D.tup [D.int 1, D.int 1]], D.tup [D.tup [D.int 1, D.int 1]], D.tup [D.tup [D.int 1, D.int 1]], D.tup [D.tup [D.int 2, D.int 1]], D.tup [D.tup [D.int 2, D.int 1]], D.tup [D.tup [D.int 2, D.int 1]], D.tup [D.tup [D.int 4, D.int 1]]],
      D.tup [D.tup [D.tup [D.int 1, D.int 1]], D.tup [D.tup [D.int 0, D.int 1]], D.tup [D.tup [D.int 0, D.int 1]], D.tup [D.tup [D.int 2, D.int 1]], D.tup [D.tup [D.int 1, D.int 1]], D.tup [D.tup [D.int 1, D.int 1]], D.tup [D.tup [D.int 0, D.int 1]]]] = pieceT L2' G2 := rfl
  rw [E1, E2]
  have ok1 := (pc_of p1).1
  have ok2 := (pc_of p2).1
  refine ⟨1, 1, L1, G1, _, rfl, .inl rfl, ok1, fun E hE => ?_, fun a ha hf => by rw [all1 a ha] at hf; cases hf⟩
  have q1 := fr_one e1 hE
  subst q1
  refine ⟨1, 1, L1, G1, _, 0, rfl, .inl rfl, ok1, .inl rfl, fun _ => ⟨fun _ B hB => ?_, fun z => by cases z⟩, fun z => absurd all1 z⟩
  have q2 := bk_one b1 hB
  subst q2
  refine ⟨1, 1, L1, G1, _, 1, rfl, .inl rfl, ok1, .inr rfl, fun _ => ⟨(fun z => by cases z), fun _ E hE => ?_⟩, fun z => absurd all1 z⟩
  have q3 := fr_one e1 hE
  subst q3
  refine ⟨1, 1, L2', G2, _, rfl, .inl rfl, ok2, fun E hE => ?_, fun a ha hf => by rw [all2 a ha] at hf; cases hf⟩
  have q4 := fr_one e2 hE
  subst q4
  refine ⟨1, 1, L2', G2, _, 0, rfl, .inl rfl, ok2, .inl rfl, fun _ => ⟨fun _ B hB => ?_, fun z => by cases z⟩, fun z => absurd all2 z⟩
  have q5 := bk_one b2 hB
  subst q5
  refine ⟨1, 1, L2', G2, _, 1, rfl, .inl rfl, ok2, .inr rfl, fun _ => ⟨(fun z => by cases z), fun _ E hE => ?_⟩, fun z => absurd all2 z⟩
  have q6 := fr_one e2 hE
  subst q6
  refine ⟨1, 1, L2', G2, _, 2, 5, rfl, .inl rfl, ok2, all2, fun E B hE hB => ?_⟩
  have q7 := fr_one e2 hE
  have q8 := bk_one b2 hB
  subst q7 q8
  refine ⟨fun z => absurd z su1, fun _ => ?_⟩
  refine ⟨1, 1, L2', G2, _, 2, 3, rfl, .inl rfl, ok2, all2, fun E B hE hB => ?_⟩
  have q7 := fr_one e2 hE
  have q8 := bk_one b2 hB
  subst q7 q8
  refine ⟨fun _ => ?_, fun z => absurd su2 z⟩
  refine ⟨1, 1, L2', G2, _, 5, rfl, .inl rfl, ok2, all2, fun E B hE hB => ?_⟩
  have q7 := fr_one e2 hE
  have q8 := bk_one b2 hB
  subst q7 q8
  rw [co1]
  refine ⟨.lst [D.int 1, D.tup [D.int 1], D.tup [D.int 2], D.int 2, D.tup [D.int 1, D.int 4], D.tup [D.int 3, D.int 6], D.bl true, D.bl false, D.bl true], rfl, ?_, h⟩
  have t1 : ∀ i : Int, okS 5 (.tup [.int i]) := fun i => ⟨by simp, fun x hx => by rw [List.mem_singleton.mp hx]; trivial⟩
  have t2 : ∀ i j : Int, okS 5 (.tup [.int i, .int j]) := fun i j => ⟨by simp, fun x hx => by
    simp at hx
    rcases hx with rfl | rfl <;> trivial⟩
  refine ⟨by simp, fun x hx => ?_⟩
  simp only [List.mem_cons, List.not_mem_nil, or_false] at hx
  rcases hx with rfl | rfl | rfl | rfl | rfl | rfl | rfl | rfl | rfl
  · trivial
  · exact t1 1
  · exact t1 2
  · trivial
  · exact t2 1 4
  · exact t2 3 6
  · trivial
  · trivial
  · trivial
end Pd
end
section
set_option Elab.async false
set_option linter.all false
set_option maxRecDepth 100000
set_option maxHeartbeats 4000000
set_option exponentiation.threshold 10000
/-! PV9: the source of draws. -/
namespace Pd
open PySem PyProof.Rows L2 RZ Ma Mc
open PySem.Spec hiding Row
@[simp] def powD (x y : D) (Q : D → Prop) : Prop := match x, y with
  | .int i, .int j => 0 ≤ j ∧ j ≤ 1000000 ∧ i.natAbs < 2 ^ 64 ∧ Q (.int (i ^ j.toNat))
  | _, _ => False
/-- by a factor of at most 64 bits -/
@[simp] def mulSD (x y : D) (Q : D → Prop) : Prop := match x, y with
  | .int i, .int j => (-(2 ^ 64) < j ∧ j < 2 ^ 64) ∧ Q (.int (i * j))
  | _, _ => False
section
variable {X : Cx} {a b : Expr} {pos : Pos} {ta tb : TD}
theorem ppd_pow (ha : PP X a ta) (hb : PP X b tb) : PP X (.BinOp a .Pow b pos) (dBin powD ta tb) := by
  refine up_bin stP bkP (fr_int fun x y P h => ?_) (pe_op op_pow ha hb)
  unfold powD at h
  split at h
  · exact ⟨_, _, _, rfl, rfl, h.2.2.2, fun H Q q => ⟨_, _, rfl, rfl, ⟨h.1, h.2.1, h.2.2.1⟩, q⟩⟩
  · exact h.elim
theorem ppd_mulS (ha : PP X a ta) (hb : PP X b tb) : PP X (.BinOp a .Mult b pos) (dBin mulSD ta tb) := by
  refine up_bin stP bkP (fr_int fun x y P h => ?_) (pe_op op_mul ha hb)
  unfold mulSD at h
  split at h
  · exact ⟨_, _, _, rfl, rfl, h.2, fun H Q q => ⟨_, _, rfl, rfl, .inr h.1, q⟩⟩
  · exact h.elim
end
/-! a def that returns a new list of its own -/
def upFF (K : PySem.W.Frag) (n : Nat) (sp : SpD) : Sp := fun vs H Q _ => ∃ (τ : Option Addr) (G : Hp) (ds : List D) (c : Nat) (P : D → Nat → Prop), W0 τ G H c ∧ Reps K τ G vs ds ∧ ds.length = n ∧ sp ds c P ∧
  ∀ d c' v G' H', P d c' → Step τ G H c G' H' c' → RF K τ H G' H' v d → Q v H'
def upSF (K : PySem.W.Frag) (τ : Option Addr) (G0 H0 : Hp) (c0 : Nat) (t : TSD) : TS := fun E σ H => ∃ (G : Hp) (ρ : Rho) (c : Nat) (R : D → Nat → Prop), W0 τ G0 H0 c0 ∧ Step τ G0 H0 c0 G H c ∧ EnvR K τ H0 G H σ ρ ∧ t ρ c (fun _ _ => False) R ∧
  (∀ d c' v G' H', R d c' → Step τ G0 H0 c0 G' H' c' → RF K τ H0 G' H' v d → E.rt v H')
abbrev PSFs (X : Cx) (τ : Option Addr) (G0 H0 : Hp) (c0 : Nat) (sts : List Stmt) (t : TSD) : Prop := PSs X sts (upSF X.K τ G0 H0 c0 t)
@[simp] def fSeq (t u : TSD) : TSD := fun ρ c _ R => t ρ c (fun ρ' c' => u ρ' c' (fun _ _ => False) R) (fun _ _ => False)
section
variable {X : Cx} {τ : Option Addr} {G0 H0 : Hp} {c0 : Nat} {st : Stmt} {rest : List Stmt} {e : Expr} {pos : Pos} {t u : TSD} {te : TD}
theorem psfs_ret (h : PF X e te) : PSFs X τ G0 H0 c0 [.Return (some e) pos] (sRet te) := pss_imp (pss_one (ps_ret h)) fun D σ H ⟨G, ρ, c, R, w, s, en, p, r⟩ =>
  ⟨τ, H0, G, ρ, c, _, s.w0 w, en, p, fun d c' v G' H' p' s' r' => r d c' v G' H' p' (s.trans w s') (bkF.bk w s r')⟩
theorem psfs_cons (h : PSD X τ G0 H0 c0 st t) (h2 : PSFs X τ G0 H0 c0 rest u) : PSFs X τ G0 H0 c0 (st :: rest) (fSeq t u) := pss_imp (pss_cons h h2) fun D σ H ⟨G, ρ, c, R, w, s, en, p, r⟩ =>
  ⟨G, ρ, c, _, _, w, s, en, p, fun ρ' c' σ' G' H' n s' g' en' => ⟨G', ρ', c', R, w, s', en', n, r⟩, fun _ _ _ _ _ z => z.elim⟩
end
def t_box : TSD := (fSeq (sSet .va 2 (dIf (bT (dBin ltD (dVar 1) (dCall len1 (dCons (dVar 0) dNil)))) (dBin ixD (dVar 0) (dVar 1)) (dC (.int 0))))
  (sRet (dLst (dCons (dBin mulSD (dCall abs1 (dCons (dVar 2) dNil)) (dCall int1 (dCons (dBin geD (dCall abs1 (dCons (dVar 2) dNil)) (dBin powD (dC (.int 10)) (dC (.int 18)))) dNil))) (dCons (dBin addD (dBin addD (dBin modD (dCall int1 (dCons (dVar 2) dNil)) (dC (.int 2305843009213693951))) (dBin mulSD (dC (.int 39373)) (dVar 1))) (dC (.int 8537))) (dCons (dC (.int 0)) dNil))))))
def sp_box : SpD := fun ds c Q => ∃ x : Int, ds = [.lst [.int x], .int 0] ∧ ∀ a b : Int, 0 ≤ a → 0 ≤ b → b < 2 ^ 62 → Q (.lst [.int a, .int b, .int 0]) c
theorem hs_box (ds : List D) (c : Nat) (Q : D → Nat → Prop) (h : sp_box ds c Q) : t_box (startR ["_law_script", "_law_k", "_law_cell_so"] ds) c (fun _ _ => False) Q := by
  obtain ⟨x, rfl, h⟩ := h
  have m1 := Int.fmod_nonneg_of_pos x (b := 2305843009213693951) (by decide)
  have m2 := Int.fmod_lt_of_pos x (b := 2305843009213693951) (by decide)
  have key : ∀ k : Bool, Q (.lst [.int ((if x < 0 then -x else x) * (if k then 1 else 0)), .int (x.fmod 2305843009213693951 + 39373 * 0 + 8537), .int 0]) c := fun k => h _ _ (by
    cases k
    · simp
    · simp only [if_true, Int.mul_one]
      split <;> omega) (by omega) (by omega)
  simp [t_box, atI, ixN]
  refine ⟨?_, ?_⟩
  · have b01 : ∀ k : Prop, ∀ [Decidable k], -18446744073709551616 < (if k then (1 : Int) else 0) ∧ (if k then (1 : Int) else 0) < 18446744073709551616 := fun k _ => by
      by_cases h : k
      · rw [if_pos h]; decide
      · rw [if_neg h]; decide
    exact b01 _
  · simpa using key (decide ((if x < 0 then -x else x) ≥ 1000000000000000000))
theorem nx_box : FnScope ["_law_script", "_law_k", "_law_cell_so"] ["_law_script", "_law_k"] (defScope (top 43)) := ⟨rfl, rfl, rfl, by decide +kernel, rfl, by decide +kernel, by decide +kernel⟩
/-- a def, any promise -/
def KnR (P : Program) (w : World) (K : PySem.W.Frag) (mg : Str → Option Value) (base : Heap) (x : Str) (k : Nat) (ps : List Str) (sp : Sp) : Prop :=
  ∃ f fd, FnOk P w K mg base CX0 k f fd ps sp ∧ mg x = some (.ref f) ∧ PySem.W.keepIn K (.ref f) = true ∧ Binds K fd ps []
section
variable {P : Program} {w : World} {K : PySem.W.Frag} {mg : Str → Option Value} {base : Heap}
theorem d_law_box (F : Fr0 K mg) (D : Dfn K mg "_law_box" 43 ["_law_script", "_law_k"]) : KnR P w K mg base "_law_box" 1 ["_law_script", "_law_k"] (upFF K 2 sp_box) := by
  have nd := nx_box.nd
  obtain ⟨f, fd, Fn, hm, hb'⟩ := D
  refine ⟨f, fd, Fn.ok nx_box (fun vs H Q E ⟨τ, G, ds, c, P, w0, r, hl, _⟩ => r.len.trans hl) fun cdv A outer s H vs Q E hr ⟨τ, G, ds, c, P', w0, r, hl, hP, q⟩ => ?_, hm, Fn.kp, hb'⟩
  refine ⟨_, psfs_cons (τ := τ) (G0 := G) (H0 := H) (c0 := c) (psd_set (k := .va) (i := 2) nd rfl (by first | exact Or.inl rfl | exact Or.inr rfl) (ppd_if (Cmp.pt (c_lt (ppd_var (pv 1)) (ppd_len (by rfl) F.len (pab_cons (pb_of (ppd_var (pv 0))) pab_nil)))) (ppd_ix (pb_of (ppd_var (pv 0))) (ppd_var (pv 1))) ppd_int))
      (psfs_ret (pfd_lst (pad_cons (ppd_mulS (ppd_abs (by rfl) F.abs (pad_cons (ppd_var (pv 2)) pad_nil)) (ppd_intc (by rfl) F.int (pad_cons (Cmp.pp (c_ge (ppd_abs (by rfl) F.abs (pad_cons (ppd_var (pv 2)) pad_nil)) (ppd_pow ppd_int ppd_int))) pad_nil))) (pad_cons (ppd_add (pb_of (ppd_add (pb_of (ppd_mod (ppd_intc (by rfl) F.int (pad_cons (ppd_var (pv 2)) pad_nil)) ppd_int)) (pb_of (ppd_mulS ppd_int (ppd_var (pv 1)))))) (pb_of ppd_int)) (pad_cons ppd_int pad_nil))))),
    G, startR ["_law_script", "_law_k", "_law_cell_so"] ds, c, _, w0, w0.refl, start_env r, hs_box ds c P' hP, fun d c' v G' H' p' s' r' => q d c' v G' H' p' s' r'⟩
end
end Pd
end
section
set_option Elab.async false
set_option linter.all false
set_option maxRecDepth 100000
set_option maxHeartbeats 4000000
set_option exponentiation.threshold 10000
/-! PW0: the law's cells. -/
namespace Pd
open PySem PyProof.Rows L2 RZ Ma Mc
open PySem.Spec hiding Row
theorem it_enumG {K : PySem.W.Frag} {τ : Option Addr} {G0 H0 : Hp} {a : Addr} {vs : List V} {ds : List D} (h : G0 a = some (.lst vs)) (r : Reps K τ G0 vs ds) : ItOk K τ false (Ite K a) G0 H0 (enumD 0 ds) := by
  intro G H c w g _
  have hs : SqL K H a vs := .of (w.le _ _ (g _ _ h))
  have r' := r.mono g
  refine ⟨fun i hi => ?_, fun i hi => ⟨vs, hs, ?_⟩, fun i x H' d hd ⟨T, x', e1, hT, e2, y1⟩ => ?_⟩
  · rw [enumD_len] at hi
    obtain ⟨v, hv, _⟩ := r'.get (List.getElem?_eq_getElem hi)
    exact ⟨vs, v, hs, hv⟩
  · rw [enumD_len] at hi
    rw [r.len]; exact hi
  · obtain ⟨dx, q1, rfl⟩ := enumD_get hd
    obtain ⟨v, hv, rv⟩ := r'.get q1
    have a1 := y1 vs hs
    rw [hv] at a1; cases a1
    subst e1 e2
    rw [Nat.zero_add]
    exact rep_pair w hT (.int _) rv
/-- what a loop asks behind its iterator's making -/
def ForR (K : PySem.W.Frag) (τ : Option Addr) (G0 H0 : Hp) (c0 : Nat) (gd : TGD) (tb : TSD) (J : It) (H1 : Hp) (σ : L2.St) (E : Ends) : Prop := ∃ (G : Hp) (ρ : Rho) (c : Nat) (items : List D) (N : Rho → Nat → Prop) (R : D → Nat → Prop),
  W0 τ G0 H0 c0 ∧ Step τ G0 H0 c0 G H1 c ∧ EnvR K τ H0 G H1 σ ρ ∧ ItOk K τ false J G H1 items ∧ forT gd tb items ρ c N R ∧
  (∀ ρ' c' σ' G' H', N ρ' c' → Step τ G0 H0 c0 G' H' c' → EnvR K τ H0 G' H' σ' ρ' → E.nx σ' H') ∧ (∀ d c' v G' H', R d c' → Step τ G0 H0 c0 G' H' c' → Rep K τ G' v d → E.rt v H')
theorem for_key {K : PySem.W.Frag} {τ : Option Addr} {G0 H0 : Hp} {c0 : Nat} {g : TG} {gd : TGD} {js : List Nat} {tb : TSD} (hgd : GOk K g gd js) {E : Ends} {σ : L2.St} {J : It} {H1 : Hp} (h : ForR K τ G0 H0 c0 gd tb J H1 σ E) : ∃ W : Nat → Nat → L2.St → Hp → Prop, (∃ m, W 0 m σ H1) ∧ ∀ i m σ H, W i m σ H →
      (J.stop i H ∧ E.nx σ H) ∨ (J.go i H ∧ ∃ N : L2.St → Hp → Prop, (∀ σ' H', N σ' H' → ∃ m', m' < m ∧ W (i + 1) m' σ' H') ∧ ∀ x H', J.yld i H x H' → g x σ H' fun σ2 H2 => upS K τ G0 H0 c0 tb { E with nx := N, ct := N, bk := E.nx } σ2 H2) := by
  obtain ⟨G1, ρ, c1, items, N, R, w, s01, en, it, p1, q, r⟩ := h
  refine ⟨fun i m σx Hx => ∃ Gx ρx cx, m = items.length - i ∧ i ≤ items.length ∧ Step τ G0 H0 c0 Gx Hx cx ∧ (∀ a o, G1 a = some o → Gx a = some o) ∧ EnvR K τ H0 Gx Hx σx ρx ∧ forT gd tb (items.drop i) ρx cx N R,
    ⟨items.length, G1, ρ, c1, by simp, Nat.zero_le _, s01, fun _ _ h => h, en, by simpa using p1⟩, ?_⟩
  rintro i m σx Hx ⟨Gx, ρx, cx, rfl, hi, sx, gx, ex, px⟩
  obtain ⟨go, stop, yl⟩ := it Gx Hx cx (sx.w0 w) gx (fun z => nomatch z)
  by_cases hlt : i < items.length
  · refine .inr ⟨go i hlt, _, fun σ' H' h => h, fun x H' hy => ?_⟩
    rw [List.drop_eq_getElem_cons hlt] at px
    obtain ⟨G2, s2, r2⟩ := yl i x H' items[i] (List.getElem?_eq_getElem hlt) hy
    have s02 := sx.trans w s2
    refine hgd τ H0 G2 H' cx σx ρx x items[i] _ _ (s02.w0 w) (ex.step s2) r2 px fun σ3 ρ3 p3 e3 _ => ?_
    refine ⟨G2, ρ3, cx, _, R, w, s02, e3, p3, fun ρ4 c4 σ4 G4 H4 p4 s4 g4 e4 => ?_, r⟩
    exact ⟨items.length - (i + 1), by omega, G4, ρ4, c4, rfl, hlt, s4, fun a o h => g4 a o (s2.gg a o (gx a o h)), e4, p4⟩
  · have e : i = items.length := by omega
    subst e
    rw [List.drop_length] at px
    exact .inl ⟨stop _ (Nat.le_refl _), q ρx cx σx Gx Hx px sx ex⟩
theorem sq_step {K : PySem.W.Frag} {G H G' H' : Hp} {c c' : Nat} {a : Addr} {xs : List V} (s : Step none G H c G' H' c') (h : SqL K H a xs) : SqL K H' a xs := by
  rcases h with (h | ⟨o, h⟩) | h
  · exact .inl (.inl (s.hh _ _ h (fun z => nomatch z)))
  · exact .inl (.inr ⟨o, s.hh _ _ h (fun z => nomatch z)⟩)
  · exact .inr h
def cutI (l : List Int) (lo hi : Option Int) : List Int := (l.drop (HT.sIx l.length 0 lo)).take (HT.sIx l.length l.length hi - HT.sIx l.length 0 lo)
theorem cut_ints (ns : List Int) (lo hi : Option Int) : cutV (ns.map V.int) lo hi = (cutI ns lo hi).map V.int := by
  unfold cutV cutI
  rw [List.length_map, List.map_take, List.map_drop]
theorem cut_a (ns : List Int) : cutI ns none (some 2) = ns.take 2 := by
  have := HT.sIx_nat ns.length ns.length 2
  unfold cutI
  rw [HT.sIx_none, show (2 : Int) = ((2 : Nat) : Int) from rfl, this]
  rw [List.drop_zero, Nat.sub_zero, ← List.take_take, List.take_length]
theorem cut_b (ns : List Int) : (cutI ns (some 2) (some 63)).length ≤ ns.length - 2 := by
  have := HT.sIx_nat ns.length 0 2
  unfold cutI
  rw [show (2 : Int) = ((2 : Nat) : Int) from rfl, this, List.length_take, List.length_drop]
  omega
theorem reps_i {K : PySem.W.Frag} {τ : Option Addr} (G2 : Hp) : ∀ ns : List Int, Reps K τ G2 (ns.map V.int) (ns.map D.int)
  | [] => .nil
  | n :: ns => .cons (.int n) (reps_i G2 ns)
def tc_body : TSD := sSeq (sSet .va 5 (dBin modD (dCall int1 (dCons (dVar 3) dNil)) (dVar 1))) (sPut 2 (dVar 5) (dBin addD (dBin ixD (dOwn 2) (dVar 5)) (dBin mulSD (dVar 4) (dBin addD (dVar 3) (dC (.int 2))))))
theorem cells_loop (N : Rho → Nat → Prop) (R : D → Nat → Prop) (c : Nat) : ∀ (ms : List Int) (k : Nat) (l : List Int) (s3 s4 s5 : Sl), (ms = [] ∨ l.length = 2) → k + ms.length ≤ 63 →
    (∀ (l' : List Int) s3 s4 s5, l'.length = l.length → N [.no, .va (.int 2), .ow (l'.map D.int), s3, s4, s5] c) →
    forT (gT 2 (gsCons (gN 3) (gsCons (gN 4) gsNil))) tc_body (enumD k (ms.map D.int)) [.no, .va (.int 2), .ow (l.map D.int), s3, s4, s5] c N R
  | [], k, l, s3, s4, s5, _, _, h => h l s3 s4 s5 rfl
  | m :: ms, k, l, s3, s4, s5, hl, hk, h => by
    have hl2 : l.length = 2 := hl.resolve_left (by simp)
    simp only [List.length_cons] at hk
    have fm : ((k : Nat) : Int).fmod 2 = ((k % 2 : Nat) : Int) := by
      rw [Int.fmod_eq_emod_of_nonneg _ (by decide)]; omega
    have hlt : k % 2 < l.length := by omega
    have at2 : atI (l.map D.int) ((k % 2 : Nat) : Int) = some (.int (l[k % 2])) := L2.atI_nat (by rw [List.getElem?_map, List.getElem?_eq_getElem hlt]; rfl)
    simp only [List.map_cons, enumD, forT, gT, gsCons, gsNil, gN, tc_body, sSeq, sSet, dBin, dCall, dCons, dNil, dVar, modD, int1, Kd.sl, List.set, List.getElem?_cons_zero, List.getElem?_cons_succ, Option.some.injEq, Sl.va.injEq, exists_eq_left', List.length, true_and]
    refine ⟨by decide, ?_⟩
    rw [fm]
    simp only [sPut, dBin, dOwn, dVar, dC, ixD, addD, mulSD, List.getElem?_cons_zero, List.getElem?_cons_succ, Option.some.injEq, Sl.va.injEq, Sl.ow.injEq, exists_eq_left', at2]
    refine ⟨⟨by omega, by omega⟩, _, k % 2, rfl, ixN_nat' (by rw [List.length_map]; exact hlt), ?_⟩
    have es : (l.map D.int).set (k % 2) (.int (l[k % 2] + m * ((k : Int) + 2))) = (l.set (k % 2) (l[k % 2] + m * ((k : Int) + 2))).map D.int := by rw [List.map_set]
    rw [es]
    exact cells_loop N R c ms (k + 1) (l.set (k % 2) _) _ _ _ (.inr (by rw [List.length_set]; exact hl2)) (by omega) fun l' s3 s4 s5 e => h l' s3 s4 s5 (by rw [e, List.length_set])
theorem nx_cells : FnScope ["_law_script", "_law_most_so", "_law_cells_so", "_law_k", "_law_cell_so", "_law_at_so"] ["_law_script", "_law_most_so"] (defScope (top 45)) := ⟨rfl, rfl, rfl, by decide +kernel, rfl, by decide +kernel, by decide +kernel⟩
/-- the promise: so many cells -/
def spCells (K : PySem.W.Frag) : Sp := fun vs H Q _ => ∃ (a : Addr) (ns : List Int) (G : Hp), vs = [.ref a, .int 2] ∧ SqL K H a (ns.map V.int) ∧ ns.length ≤ 63 ∧ W0 none G H 0 ∧
  ∀ (l : List Int) v G' H', l.length ≤ 2 → Step none G H 0 G' H' 0 → Rep K none G' v (.lst (l.map D.int)) → Q v H'
section
variable {P : Program} {w : World} {K : PySem.W.Frag} {mg : Str → Option Value} {base : Heap}
theorem d_law_cells (F : Fr0 K mg) (D0 : Dfn K mg "_law_cells" 45 ["_law_script", "_law_most_so"]) : KnR P w K mg base "_law_cells" 1 ["_law_script", "_law_most_so"] (spCells K) := by
  have nd := nx_cells.nd
  obtain ⟨f, fd, Fn, hm, hb'⟩ := D0
  refine ⟨f, fd, Fn.ok nx_cells (fun vs H Q E ⟨a, ns, G, e, _⟩ => by rw [e]; rfl) fun cdv A outer s H vs Q E hr ⟨a, ns, G, e, hS, hn, w0, q⟩ => ?_, hm, Fn.kp, hb'⟩
  subst e
  refine ⟨_, pss_cons (ps_set (i := 2) nd rfl (by first | exact Or.inl rfl | exact Or.inr rfl) (pe_orT (pe_callTy call_list_of (by rfl) F.list (by decide +kernel) (pa_cons (pe_slice sl_list (pv 0) po_none (po_some (pv 1))) pa_nil)) (pe_one (pe_lst (pa_cons pe_int pa_nil)))))
    (pss_cons (ps_for PassesOwn.never rfl (pi_enum (by rfl) F.enumerate (pa_cons (pe_slice sl_list (pv 0) (po_some (pv 1)) (po_some pe_int)) pa_nil)) (pg_tup rfl (pgs_cons (pg_name (i := 3) nd rfl (by first | exact Or.inl rfl | exact Or.inr rfl)) (pgs_cons (pg_name (i := 4) nd rfl (by first | exact Or.inl rfl | exact Or.inr rfl)) pgs_nil)))
      (show PSsD _ none G H 0 _ tc_body from pssd_cons (psd_set (k := .va) (i := 5) nd rfl (by first | exact Or.inl rfl | exact Or.inr rfl) (ppd_mod (ppd_intc (by rfl) F.int (pad_cons (ppd_var (pv 3)) pad_nil)) (ppd_var (pv 1))))
        (pssd_one (psd_put (pv 2) (ppd_var (pv 5)) (ppd_add (pb_of (ppd_ix (pbd_own (pv 2)) (ppd_var (pv 5)))) (pb_of (ppd_mulS (ppd_var (pv 4)) (ppd_add (pb_of (ppd_var (pv 3))) (pb_of ppd_int)))))))))
    (show PSsD _ none G H 0 _ (sFrz 2 (sRet (dVar 2))) from pssd_frz 2 (pssd_one (psd_ret (ppd_var (pv 2)))))), ?_⟩
  have rest : ∀ (p : Addr) (Hc : Hp) (l : List Int), Step none G H 0 G Hc 0 → Hc p = some (.lst (l.map V.int)) → G p = none → H p = none → l.length ≤ 2 → (ns.length ≤ 2 ∨ l.length = 2) →
      tSeq (tFor (iEnum K (tCons (tSl (rSlL K) (tVar 0) (tPart (tVar 1)) (tPart (tC (.int 63)))) tNil)) (gTup K 2 (gCons (gName 3) (gCons (gName 4) gNil))) (upS K none G H 0 tc_body)) (upS K none G H 0 (sFrz 2 (sRet (dVar 2)))) { nx := fun _ H' => Q .non H', rt := Q } [some (.ref a), some (.int 2), some (.ref p), none, none, none] Hc := by
    intro p Hc l sc hp gp hz hl2 hl
    have wc := sc.w0 w0
    have hSc := sq_step sc hS
    refine ⟨_, rfl, _, rfl, _, rfl, _, rfl, a, ns.map V.int, rfl, hSc, fun b hb => ⟨b, _, rfl, .of upd_same, ?_⟩⟩
    rw [cut_ints]
    generalize hms : cutI ns (some 2) (some 63) = ms
    have lm : ms.length ≤ ns.length - 2 := by rw [← hms]; exact cut_b ns
    have en0 : EnvR K none H G Hc [some (.ref a), some (.int 2), some (.ref p), none, none, none] [.no, .va (.int 2), .ow (l.map D.int), .no, .no, .no] := by
      refine ⟨rfl, fun i d h => ?_, fun i l' h => ?_, fun i l' h => ?_, fun i j s t p h1 h2 o1 o2 _ _ => ?_⟩
      · match i, h with
        | 1, h => cases h; exact ⟨_, rfl, .int _⟩
        | 0, h => cases h
        | 2, h => cases h
        | 3, h => cases h
        | 4, h => cases h
        | 5, h => cases h
        | i + 6, h => simp at h
      · match i, h with
        | 2, h => cases h; exact ⟨p, _, rfl, hp, reps_i _ l, gp, hz, fun z => nomatch z⟩
        | 0, h => cases h
        | 1, h => cases h
        | 3, h => cases h
        | 4, h => cases h
        | 5, h => cases h
        | i + 6, h => simp at h
      · match i, h with
        | 0, h => cases h
        | 1, h => cases h
        | 2, h => cases h
        | 3, h => cases h
        | 4, h => cases h
        | 5, h => cases h
        | i + 6, h => simp at h
      · have own2 : ∀ (i : Nat) (s : Sl), ([.no, .va (.int 2), .ow (l.map D.int), .no, .no, .no] : Rho)[i]? = some s → s.own = true → i = 2 := fun i s h o => by
          match i, h with
          | 2, h => rfl
          | 0, h => cases h; cases o
          | 1, h => cases h; cases o
          | 3, h => cases h; cases o
          | 4, h => cases h; cases o
          | 5, h => cases h; cases o
          | i + 6, h => simp at h
        rw [own2 i s h1 o1, own2 j t h2 o2]
    have sl : Step none G Hc 0 (upd G b (.lst (ms.map V.int))) (upd Hc b (.lst (ms.map V.int))) 0 := .laid wc hb
    have hg : GOk K (gTup K 2 (gCons (gName 3) (gCons (gName 4) gNil))) (gT 2 (gsCons (gN 3) (gsCons (gN 4) gsNil))) ([3] ++ ([4] ++ [])) := gok_tup (X := cxOf CX0 P w K mg base [] "_law_cells" (defScope (top 45)) f cdv A outer s H E) (gsok_cons (gok_name 3) (gsok_cons (gok_name 4) gsok_nil))
    refine for_key hg ⟨upd G b (.lst (ms.map V.int)), [.no, .va (.int 2), .ow (l.map D.int), .no, .no, .no], 0, enumD 0 (ms.map D.int),
      (fun ρ' c' => c' = 0 ∧ ∃ (l' : List Int) (s3 s4 s5 : Sl), ρ' = [.no, .va (.int 2), .ow (l'.map D.int), s3, s4, s5] ∧ l'.length ≤ 2), (fun _ _ => False), w0, sc.trans w0 sl, en0.step sl, it_enumG upd_same (reps_i _ ms),
      cells_loop _ _ 0 ms 0 l .no .no .no ?_ (by omega) (fun l' s3 s4 s5 e => ⟨rfl, l', s3, s4, s5, rfl, by omega⟩), ?_, fun _ _ _ _ _ z => z.elim⟩
    · rcases hl with hl | hl
      · exact .inl (List.eq_nil_of_length_eq_zero (by omega))
      · exact .inr hl
    · rintro ρ' c' σ' G' H' ⟨rfl, l', s3, s4, s5, rfl, hl'⟩ s' en'
      refine ⟨G', _, 0, fun _ _ => False, fun d c' => c' = 0 ∧ d = .lst (l'.map D.int), w0, s', en', ?_, fun _ _ _ _ _ z => z.elim, ?_⟩
      · simp [Pd.frz]
      · rintro d c' v G2 H2 ⟨rfl, rfl⟩ s2 r2
        exact q l' v G2 H2 hl' s2 r2
  -- the first statement
  refine ⟨.ref a, rfl, .int 2, rfl, 2, rfl, a, ns.map V.int, rfl, hS, fun p hp => ⟨p, _, rfl, .inl (.of upd_same), fun l hl => ⟨_, .inl ⟨_, .of upd_same, rfl⟩, ?_⟩⟩⟩
  rw [cut_ints, cut_a] at hl ⊢
  have s1 : Step none G H 0 G (upd H p (.lst ((ns.take 2).map V.int))) 0 := .laidF w0 hp
  have s2 : Step none G H 0 G (upd (upd H p (.lst ((ns.take 2).map V.int))) l (.lst ((ns.take 2).map V.int))) 0 := s1.trans w0 (.laidF (s1.w0 w0) hl)
  have hlz : H l = none := s1.zz w0 l hl
  by_cases he : ns.take 2 = []
  · rw [he] at s1 s2 hl ⊢
    simp only [List.map_nil, List.isEmpty_nil, Bool.not_true, Bool.false_eq_true, if_false]
    refine ⟨by show 1 ≤ sizeLine; decide, fun b hb => ?_⟩
    have w2 := s2.w0 w0
    have gb := g_none w2 hb
    exact rest b _ [0] (s2.trans w0 (.laidF w2 hb)) upd_same gb (s2.zz w0 b hb) (by decide) (.inl (by
      have h0 : ns = [] := by simpa using he
      rw [h0]; decide))
  · have hne : (!((ns.take 2).map V.int).isEmpty) = true := by
      cases hq : ns.take 2 with
      | nil => exact absurd hq he
      | cons x y => rfl
    rw [hne]
    simp only [if_true]
    refine rest l _ (ns.take 2) s2 upd_same (g_none (s1.w0 w0) hl) hlz (by rw [List.length_take]; omega) ?_
    by_cases h2 : ns.length ≤ 2
    · exact .inl h2
    · exact .inr (by rw [List.length_take]; omega)
end
end Pd
end
section
set_option Elab.async false
set_option linter.all false
set_option maxRecDepth 100000
set_option maxHeartbeats 4000000
set_option exponentiation.threshold 10000
/-! PW1: the law. -/
namespace Pd
open PySem PyProof.Rows L2 RZ Ma Mc
open PySem.Spec hiding Row
theorem ppd_call0K {X : Cx} {k j : Nat} {sp : SpD} {x : Str} {p pos : Pos} (F : Kn X.prog X.w X.K X.mg X.base x j [] sp) (hr : Room k X.A) (h : j ≤ k) (hg : Gl X x) (hdb : (x == ("__debug__" : Str)) = false := by decide) :
    PP X (.Call (.Name x p) [] [] pos) (fun _ c Q => sp [] c Q) := by
  obtain ⟨f, fd, F, hm, hk, hb⟩ := F
  exact pe_imp (pe_call0 F (hr.mono h) hg hm hk hb .nil pass0 hdb) fun σ H Q ⟨τ, H0, G, ρ, c, P, w, en, p, q⟩ => ⟨τ, G, [], c, P, w, .nil, rfl, p, fun d c' v G' H' p' s' r' => q d c' v G' H' p' s' r'⟩
theorem nx_law : FnScope ["_law_script", "_law_cell_so", "_law_tin"] ["_law_script"] (defScope (top 79)) := ⟨rfl, rfl, rfl, by decide +kernel, rfl, by decide +kernel, by decide +kernel⟩
def spLaw (K : PySem.W.Frag) : Sp := fun vs H Q _ => ∃ (a : Addr) (ns : List Int), vs = [.ref a] ∧ SqL K H a (ns.map V.int) ∧ ns.length ≤ 63 ∧ ∀ H', Q (.bl true) H'
theorem env_no {K : PySem.W.Frag} {τ : Option Addr} {H0 G H : Hp} {σ : L2.St} : EnvR K τ H0 G H σ (List.replicate σ.length .no) := by
  have key : ∀ (i : Nat) (s : Sl), (List.replicate σ.length Sl.no)[i]? = some s → s = .no := fun i s h => List.eq_of_mem_replicate (List.mem_of_getElem? h)
  refine ⟨by simp, fun i d h => ?_, fun i d h => ?_, fun i d h => ?_, fun i j s t p h1 h2 o1 o2 _ _ => ?_⟩
  · cases key i _ h
  · cases key i _ h
  · cases key i _ h
  · rw [key i s h1] at o1; cases o1
section
variable {P : Program} {w : World} {K : PySem.W.Frag} {mg : Str → Option Value} {base : Heap} {k : Nat}
theorem d_law (F : Fr0 K mg) {f : Addr} {fd : FuncData} (Fn : Fun K "law" "law" (top 79) f fd) {j1 j2 j3 j4 j5 : Nat} (k_hand : Kn P w K mg base "_law_by_hand_right" j1 [] sp_law_by_hand_right) (l1 : j1 ≤ k) (k_cells : KnR P w K mg base "_law_cells" j2 ["_law_script", "_law_most_so"] (spCells K)) (l2 : j2 ≤ k)
    (k_box : KnR P w K mg base "_law_box" j3 ["_law_script", "_law_k"] (upFF K 2 sp_box)) (l3 : j3 ≤ k) (k_right : Kn P w K mg base "_law_piece_right" j4 ["_law_tin", "_law_piece_so"] sp_law_piece_right) (l4 : j4 ≤ k) (k_drawn : Kn P w K mg base "_law_drawn_piece" j5 ["_law_tin"] sp_law_drawn_piece) (l5 : j5 ≤ k) :
    FnOk P w K mg base CX0 (k + 1) f fd ["_law_script"] (spLaw K) := by
  have nd := nx_law.nd
  obtain ⟨f2, fd2, F2, hm2, hk2, hb2⟩ := k_cells
  obtain ⟨f3, fd3, F3, hm3, hk3, hb3⟩ := k_box
  refine Fn.ok nx_law (fun vs H Q E ⟨a, ns, e, _⟩ => by rw [e]; rfl) fun cdv A outer s H vs Q E hr ⟨a, ns, e, hS, hn, q⟩ => ?_
  subst e
  refine ⟨_, pss_cons (ps_if (ptd_not (ptd_val (ppd_call0K k_hand hr l1 (by rfl)))) pss_never pss_nil)
    (pss_cons (ps_for PassesOwn.never rfl (pi_list (pe_call F2 (hr.mono l2) (by rfl) hm2 hk2 hb2 .nil pass0 (pa_cons (pv 0) (pa_cons pe_int pa_nil)))) (pg_name (i := 1) nd rfl (by first | exact Or.inl rfl | exact Or.inr rfl))
      (pss_cons (ps_set (i := 2) nd rfl (by first | exact Or.inl rfl | exact Or.inr rfl) (pe_call F3 (hr.mono l3) (by rfl) hm3 hk3 hb3 .nil pass0 (pa_cons (pe_lst (pa_cons (pv 1) pa_nil)) (pa_cons pe_int pa_nil))))
        (pss_one (ps_if (ptd_not (ptd_val (ppd_callK k_right rfl hr l4 (by rfl) (pad_cons (ppd_var (pv 2)) (pad_cons (ppd_callK k_drawn rfl hr l5 (by rfl) (pad_cons (ppd_var (pv 2)) pad_nil)) pad_nil))))) pss_never pss_nil))))
    (pss_one (ps_ret pe_bl))), ?_⟩
  have w0 : W0 none (fun _ => none) H 0 := ⟨(fun _ _ h => nomatch h), (fun _ z => nomatch z), (fun _ z => nomatch z)⟩
  refine ⟨none, H, fun _ => none, _, 0, fun b c => b = false ∧ c = 0, w0, env_no, ?_, ?_⟩
  · exact ⟨rfl, true, rfl, rfl, rfl⟩
  rintro b c' G1 H1 ⟨rfl, rfl⟩ s1
  refine iteF ?_
  have w1 := s1.w0 w0
  refine ⟨.ref a, rfl, a, ns, G1, rfl, sq_step s1 hS, hn, w1, fun l v G2 H2 _ s2 r2 => ?_⟩
  have w2 := s2.w0 w1
  cases r2 with
  | @lst b xs _ hb rr =>
    have ex := rr.ints
    subst ex
    refine ⟨b, rfl, ⟨_, .of (w2.le _ _ hb)⟩, fun i m σ Hx => ∃ Gx, m = l.length - i ∧ i ≤ l.length ∧ W0 none Gx Hx 0 ∧ (∀ a o, G2 a = some o → Gx a = some o) ∧ σ.length = 3, ⟨l.length, G2, by simp, Nat.zero_le _, w2, fun _ _ h => h, rfl⟩, ?_⟩
    rintro i m σ Hx ⟨Gx, rfl, hi, wx, gx, hσ⟩
    obtain ⟨go, stop, yl⟩ := it_list (K := K) (τ := none) (H0 := H2) hb rr Gx Hx 0 wx gx (fun z => nomatch z)
    rw [List.length_map] at go stop
    by_cases hlt : i < l.length
    · refine .inr ⟨go i hlt, _, fun σ' H' h => h, fun x H' hy => ?_⟩
      obtain ⟨G3, s3, r3⟩ := yl i x H' (.int (l[i])) (by rw [List.getElem?_map, List.getElem?_eq_getElem hlt]; rfl) hy
      cases r3
      have w3 := s3.w0 wx
      have e1 : (σ.set 1 (some (V.int l[i])))[1]? = some (some (V.int l[i])) := List.getElem?_set_self (by omega)
      refine ⟨_, e1, by show 1 ≤ sizeLine; decide, fun t ht => ?_⟩
      have sl : Step none G3 H' 0 (upd G3 t (.lst [.int l[i]])) (upd H' t (.lst [.int l[i]])) 0 := .laid w3 ht
      have w4 := sl.w0 w3
      refine ⟨none, _, [.lst [.int l[i]], .int 0], 0, fun d c => c = 0 ∧ ∃ a b : Int, 0 ≤ a ∧ 0 ≤ b ∧ b < 2 ^ 62 ∧ d = .lst [.int a, .int b, .int 0], w4, .cons (.lst upd_same (.cons (.int _) .nil)) (.cons (.int _) .nil), rfl, ⟨_, rfl, fun a b h1 h2 h3 => ⟨rfl, a, b, h1, h2, h3, rfl⟩⟩, ?_⟩
      rintro d c' v G5 H5 ⟨rfl, x, y, hx, hy1, hy2, rfl⟩ s5 ⟨p, us, ds, rfl, hd, hp, rp, gp, _, _⟩
      have ed := D.lst.inj hd
      subst ed
      have eu := Reps.ints (ns := [x, y, 0]) rp
      subst eu
      have w5 := s5.w0 w4
      have wp : W0 (some p) G5 H5 0 := ⟨w5.le, fun a ha => by
        cases ha
        exact ⟨x, y, 0, hp, hx, hy1, hy2, Int.le_refl _, by simp⟩, fun a ha => by
        cases ha
        exact gp⟩
      have en : EnvR K (some p) H5 G5 H5 ((σ.set 1 (some (V.int l[i]))).set 2 (some (.ref p))) ((List.replicate 3 Sl.no).set 2 (.va .tin)) := by
        have e0 := env_no (K := K) (τ := some p) (H0 := H5) (G := G5) (H := H5) (σ := σ.set 1 (some (V.int l[i])))
        rw [List.length_set, hσ] at e0
        exact e0.setva (.tin rfl)
      refine ⟨some p, H5, G5, _, 0, fun b _ => b = false, wp, en, ?_, ?_⟩
      · refine ⟨.tin, rfl, .tin, rfl, rfl, rfl, by decide, fun n m L G c' pb hc' => ⟨rfl, n, m, L, G, rfl, pb, by omega, fun c'' => ⟨true, rfl, rfl⟩⟩⟩
      · rintro b c' G6 H6 rfl s6
        refine iteF ?_
        refine ⟨l.length - (i + 1), by omega, G6, rfl, hlt, ⟨s6.gh, (fun _ z => nomatch z), (fun _ z => nomatch z)⟩, fun a o h => s6.gg a o (s5.gg a o (sl.gg a o (s3.gg a o (gx a o h)))), by simp [hσ]⟩
    · have e : i = l.length := by omega
      subst e
      exact .inl ⟨stop _ (Nat.le_refl _), q Hx⟩
end
end Pd
end
section
set_option Elab.async false
set_option linter.all false
set_option maxRecDepth 100000
set_option maxHeartbeats 4000000
/-! PX0: derivations of the defs (printed by genx.py). -/
namespace Pd
open PySem PyProof.Rows L2 RZ Ma Mc
open PySem.Spec hiding Row
abbrev N_tupled : List Str := ["thing", "part"]
theorem sc_tupled : FnScope N_tupled ["thing"] (defScope (top 7)) := ⟨rfl, rfl, rfl, by decide +kernel, rfl, by decide +kernel, by decide +kernel⟩
theorem d_tupled {P : Program} {w : World} {K : PySem.W.Frag} {mg : Str → Option Value} {base : Heap} {sp sp_tupled : SpD} {k : Nat} (F : Fr0 K mg) (D : Dfn K mg "tupled" 7 ["thing"]) {j_tupled : Nat} (k_tupled : Kn P w K mg base "tupled" j_tupled ["thing"] sp_tupled) (l_tupled : j_tupled ≤ k)
    (hs : ∀ ds c Q, ds.length = 1 → sp ds c Q → t_tupled sp_tupled (startR N_tupled ds) c (fun _ c' => Q .non c') Q) : Kn P w K mg base "tupled" (k + 1) ["thing"] sp :=
  have nd := sc_tupled.nd
  knD D sc_tupled (t_tupled sp_tupled) hs fun f cdv A outer s H E τ G c hr =>
    (pssd_one (psd_ret (ppd_if (ptd_val (ppd_isi2 (by decide) (by decide) (by rfl) F.isinstance (ppd_var (pv 0)) (pe_tyn (n := "list") (by decide +kernel) (by rfl) F.list) (pe_tyn (n := "tuple") (by decide +kernel) (by rfl) F.tuple) (q := _))) (ppd_tuple (by rfl) F.tuple (pab_cons (pb_of (pp_of (pfd_lc rfl nd rfl (pid_strong (pid_seq (ppd_var (pv 0)))) (blkOk_by (own := [("part", 1)]) (N := N_tupled) (sc := defScope (top 7)) (by decide +kernel)) (fun _ _ _ _ _ => (pg_name (i := 1) nd rfl (by first | exact Or.inl rfl | exact Or.inr rfl))) (gok_name 1) (by decide) (fun _ _ _ _ _ => ptsd_nil) (fun _ _ _ _ _ => (ppd_callK k_tupled rfl hr (by omega) (by rfl) (pad_cons (ppd_var (pv 1)) pad_nil)))))) pab_nil)) (ppd_var (pv 0)))))
abbrev N_part_of : List Str := ["top", "bottom", "common"]
theorem sc_part_of : FnScope N_part_of ["top", "bottom"] (defScope (top 8)) := ⟨rfl, rfl, rfl, by decide +kernel, rfl, by decide +kernel, by decide +kernel⟩
theorem d_part_of {P : Program} {w : World} {K : PySem.W.Frag} {mg : Str → Option Value} {base : Heap} {sp : SpD} {k : Nat} (F : Fr0 K mg) (D : Dfn K mg "part_of" 8 ["top", "bottom"])
    (hs : ∀ ds c Q, ds.length = 2 → sp ds c Q → t_part_of (startR N_part_of ds) c (fun _ c' => Q .non c') Q) : Kn P w K mg base "part_of" (k + 1) ["top", "bottom"] sp :=
  have nd := sc_part_of.nd
  knD D sc_part_of (t_part_of) hs fun f cdv A outer s H E τ G c hr =>
    (pssd_cons (psd_set (k := .va) (i := 2) nd rfl (by first | exact Or.inl rfl | exact Or.inr rfl) (ppd_gcd (by rfl) F.gcd (pad_cons (ppd_var (pv 0)) (pad_cons (ppd_var (pv 1)) pad_nil))))
      (pssd_cons (psd_if (Cmp.pt (c_lt (ppd_var (pv 1)) ppd_int)) (pssd_one (psd_set (k := .va) (i := 2) nd rfl (by first | exact Or.inl rfl | exact Or.inr rfl) (ppd_neg (ppd_var (pv 2))))) pssd_nil)
      (pssd_one (psd_ret (ppd_tup (pad_cons (ppd_fdiv (ppd_var (pv 0)) (ppd_var (pv 2))) (pad_cons (ppd_fdiv (ppd_var (pv 1)) (ppd_var (pv 2))) pad_nil)))))))
abbrev N_part_plus : List Str := ["one", "other"]
theorem sc_part_plus : FnScope N_part_plus ["one", "other"] (defScope (top 9)) := ⟨rfl, rfl, rfl, by decide +kernel, rfl, by decide +kernel, by decide +kernel⟩
theorem d_part_plus {P : Program} {w : World} {K : PySem.W.Frag} {mg : Str → Option Value} {base : Heap} {sp sp_part_of : SpD} {k : Nat} (F : Fr0 K mg) (D : Dfn K mg "part_plus" 9 ["one", "other"]) {j_part_of : Nat} (k_part_of : Kn P w K mg base "part_of" j_part_of ["top", "bottom"] sp_part_of) (l_part_of : j_part_of ≤ k)
    (hs : ∀ ds c Q, ds.length = 2 → sp ds c Q → t_part_plus sp_part_of (startR N_part_plus ds) c (fun _ c' => Q .non c') Q) : Kn P w K mg base "part_plus" (k + 1) ["one", "other"] sp :=
  have nd := sc_part_plus.nd
  knD D sc_part_plus (t_part_plus sp_part_of) hs fun f cdv A outer s H E τ G c hr =>
    (pssd_cons (psd_if (ptd_w (pwd_and (Cmp.pt (c_eq hr.units (pb_of (ppd_ix (pb_of (ppd_var (pv 0))) ppd_int)) (pb_of ppd_int))) (pwd_and1 (Cmp.pt (c_eq hr.units (pb_of (ppd_ix (pb_of (ppd_var (pv 1))) ppd_int)) (pb_of ppd_int)))))) (pssd_one (psd_ret (ppd_tup (pad_cons (ppd_add (pb_of (ppd_ix (pb_of (ppd_var (pv 0))) ppd_int)) (pb_of (ppd_ix (pb_of (ppd_var (pv 1))) ppd_int))) (pad_cons ppd_int pad_nil))))) pssd_nil)
      (pssd_one (psd_ret (ppd_callK k_part_of rfl hr (by omega) (by rfl) (pad_cons (ppd_add (pb_of (ppd_mul (ppd_ix (pb_of (ppd_var (pv 0))) ppd_int) (ppd_ix (pb_of (ppd_var (pv 1))) ppd_int))) (pb_of (ppd_mul (ppd_ix (pb_of (ppd_var (pv 1))) ppd_int) (ppd_ix (pb_of (ppd_var (pv 0))) ppd_int)))) (pad_cons (ppd_mul (ppd_ix (pb_of (ppd_var (pv 0))) ppd_int) (ppd_ix (pb_of (ppd_var (pv 1))) ppd_int)) pad_nil))))))
abbrev N_part_minus : List Str := ["one"]
theorem sc_part_minus : FnScope N_part_minus ["one"] (defScope (top 10)) := ⟨rfl, rfl, rfl, by decide +kernel, rfl, by decide +kernel, by decide +kernel⟩
theorem d_part_minus {P : Program} {w : World} {K : PySem.W.Frag} {mg : Str → Option Value} {base : Heap} {sp : SpD} {k : Nat} (F : Fr0 K mg) (D : Dfn K mg "part_minus" 10 ["one"])
    (hs : ∀ ds c Q, ds.length = 1 → sp ds c Q → t_part_minus (startR N_part_minus ds) c (fun _ c' => Q .non c') Q) : Kn P w K mg base "part_minus" (k + 1) ["one"] sp :=
  have nd := sc_part_minus.nd
  knD D sc_part_minus (t_part_minus) hs fun f cdv A outer s H E τ G c hr =>
    (pssd_one (psd_ret (ppd_tup (pad_cons (ppd_neg (ppd_ix (pb_of (ppd_var (pv 0))) ppd_int)) (pad_cons (ppd_ix (pb_of (ppd_var (pv 0))) ppd_int) pad_nil)))))
abbrev N_part_times : List Str := ["one", "other"]
theorem sc_part_times : FnScope N_part_times ["one", "other"] (defScope (top 11)) := ⟨rfl, rfl, rfl, by decide +kernel, rfl, by decide +kernel, by decide +kernel⟩
theorem d_part_times {P : Program} {w : World} {K : PySem.W.Frag} {mg : Str → Option Value} {base : Heap} {sp sp_part_of : SpD} {k : Nat} (F : Fr0 K mg) (D : Dfn K mg "part_times" 11 ["one", "other"]) {j_part_of : Nat} (k_part_of : Kn P w K mg base "part_of" j_part_of ["top", "bottom"] sp_part_of) (l_part_of : j_part_of ≤ k)
    (hs : ∀ ds c Q, ds.length = 2 → sp ds c Q → t_part_times sp_part_of (startR N_part_times ds) c (fun _ c' => Q .non c') Q) : Kn P w K mg base "part_times" (k + 1) ["one", "other"] sp :=
  have nd := sc_part_times.nd
  knD D sc_part_times (t_part_times sp_part_of) hs fun f cdv A outer s H E τ G c hr =>
    (pssd_cons (psd_if (ptd_w (pwd_and (Cmp.pt (c_eq hr.units (pb_of (ppd_ix (pb_of (ppd_var (pv 0))) ppd_int)) (pb_of ppd_int))) (pwd_and1 (Cmp.pt (c_eq hr.units (pb_of (ppd_ix (pb_of (ppd_var (pv 1))) ppd_int)) (pb_of ppd_int)))))) (pssd_one (psd_ret (ppd_tup (pad_cons (ppd_mul (ppd_ix (pb_of (ppd_var (pv 0))) ppd_int) (ppd_ix (pb_of (ppd_var (pv 1))) ppd_int)) (pad_cons ppd_int pad_nil))))) pssd_nil)
      (pssd_one (psd_ret (ppd_callK k_part_of rfl hr (by omega) (by rfl) (pad_cons (ppd_mul (ppd_ix (pb_of (ppd_var (pv 0))) ppd_int) (ppd_ix (pb_of (ppd_var (pv 1))) ppd_int)) (pad_cons (ppd_mul (ppd_ix (pb_of (ppd_var (pv 0))) ppd_int) (ppd_ix (pb_of (ppd_var (pv 1))) ppd_int)) pad_nil))))))
abbrev N_part_over : List Str := ["one", "other"]
theorem sc_part_over : FnScope N_part_over ["one", "other"] (defScope (top 12)) := ⟨rfl, rfl, rfl, by decide +kernel, rfl, by decide +kernel, by decide +kernel⟩
theorem d_part_over {P : Program} {w : World} {K : PySem.W.Frag} {mg : Str → Option Value} {base : Heap} {sp sp_part_of : SpD} {k : Nat} (F : Fr0 K mg) (D : Dfn K mg "part_over" 12 ["one", "other"]) {j_part_of : Nat} (k_part_of : Kn P w K mg base "part_of" j_part_of ["top", "bottom"] sp_part_of) (l_part_of : j_part_of ≤ k)
    (hs : ∀ ds c Q, ds.length = 2 → sp ds c Q → t_part_over sp_part_of (startR N_part_over ds) c (fun _ c' => Q .non c') Q) : Kn P w K mg base "part_over" (k + 1) ["one", "other"] sp :=
  have nd := sc_part_over.nd
  knD D sc_part_over (t_part_over sp_part_of) hs fun f cdv A outer s H E τ G c hr =>
    (pssd_one (psd_ret (ppd_callK k_part_of rfl hr (by omega) (by rfl) (pad_cons (ppd_mul (ppd_ix (pb_of (ppd_var (pv 0))) ppd_int) (ppd_ix (pb_of (ppd_var (pv 1))) ppd_int)) (pad_cons (ppd_mul (ppd_ix (pb_of (ppd_var (pv 0))) ppd_int) (ppd_ix (pb_of (ppd_var (pv 1))) ppd_int)) pad_nil)))))
abbrev N_cells_plus : List Str := ["row", "other", "near", "far"]
theorem sc_cells_plus : FnScope N_cells_plus ["row", "other"] (defScope (top 13)) := ⟨rfl, rfl, rfl, by decide +kernel, rfl, by decide +kernel, by decide +kernel⟩
theorem d_cells_plus {P : Program} {w : World} {K : PySem.W.Frag} {mg : Str → Option Value} {base : Heap} {sp sp_part_plus : SpD} {k : Nat} (F : Fr0 K mg) (D : Dfn K mg "cells_plus" 13 ["row", "other"]) {j_part_plus : Nat} (k_part_plus : Kn P w K mg base "part_plus" j_part_plus ["one", "other"] sp_part_plus) (l_part_plus : j_part_plus ≤ k)
    (hs : ∀ ds c Q, ds.length = 2 → sp ds c Q → t_cells_plus sp_part_plus (startR N_cells_plus ds) c (fun _ c' => Q .non c') Q) : Kn P w K mg base "cells_plus" (k + 1) ["row", "other"] sp :=
  have nd := sc_cells_plus.nd
  knD D sc_cells_plus (t_cells_plus sp_part_plus) hs fun f cdv A outer s H E τ G c hr =>
    (pssd_one (psd_ret (ppd_tuple (by rfl) F.tuple (pab_cons (pb_of (pp_of (pfd_lc rfl nd rfl (pid_strong (pid_zip (by rfl) F.zip (pad_cons (ppd_var (pv 0)) (pad_cons (ppd_var (pv 1)) pad_nil)))) (blkOk_by (own := [("near", 2), ("far", 3)]) (N := N_cells_plus) (sc := defScope (top 13)) (by decide +kernel)) (fun _ _ _ _ _ => (pg_tup rfl (pgs_cons (pg_name (i := 2) nd rfl (by first | exact Or.inl rfl | exact Or.inr rfl)) (pgs_cons (pg_name (i := 3) nd rfl (by first | exact Or.inl rfl | exact Or.inr rfl)) pgs_nil)))) (gok_tup (gsok_cons (gok_name 2) (gsok_cons (gok_name 3) gsok_nil))) (by decide) (fun _ _ _ _ _ => ptsd_nil) (fun _ _ _ _ _ => (ppd_callK k_part_plus rfl hr (by omega) (by rfl) (pad_cons (ppd_var (pv 2)) (pad_cons (ppd_var (pv 3)) pad_nil))))))) pab_nil))))
abbrev N_cells_times : List Str := ["row", "much", "part"]
theorem sc_cells_times : FnScope N_cells_times ["row", "much"] (defScope (top 14)) := ⟨rfl, rfl, rfl, by decide +kernel, rfl, by decide +kernel, by decide +kernel⟩
theorem d_cells_times {P : Program} {w : World} {K : PySem.W.Frag} {mg : Str → Option Value} {base : Heap} {sp sp_part_times : SpD} {k : Nat} (F : Fr0 K mg) (D : Dfn K mg "cells_times" 14 ["row", "much"]) {j_part_times : Nat} (k_part_times : Kn P w K mg base "part_times" j_part_times ["one", "other"] sp_part_times) (l_part_times : j_part_times ≤ k)
    (hs : ∀ ds c Q, ds.length = 2 → sp ds c Q → t_cells_times sp_part_times (startR N_cells_times ds) c (fun _ c' => Q .non c') Q) : Kn P w K mg base "cells_times" (k + 1) ["row", "much"] sp :=
  have nd := sc_cells_times.nd
  knD D sc_cells_times (t_cells_times sp_part_times) hs fun f cdv A outer s H E τ G c hr =>
    (pssd_one (psd_ret (ppd_tuple (by rfl) F.tuple (pab_cons (pb_of (pp_of (pfd_lc rfl nd rfl (pid_strong (pid_seq (ppd_var (pv 0)))) (blkOk_by (own := [("part", 2)]) (N := N_cells_times) (sc := defScope (top 14)) (by decide +kernel)) (fun _ _ _ _ _ => (pg_name (i := 2) nd rfl (by first | exact Or.inl rfl | exact Or.inr rfl))) (gok_name 2) (by decide) (fun _ _ _ _ _ => ptsd_nil) (fun _ _ _ _ _ => (ppd_callK k_part_times rfl hr (by omega) (by rfl) (pad_cons (ppd_var (pv 2)) (pad_cons (ppd_var (pv 1)) pad_nil))))))) pab_nil))))
abbrev N_cells_none : List Str := ["size"]
theorem sc_cells_none : FnScope N_cells_none ["size"] (defScope (top 15)) := ⟨rfl, rfl, rfl, by decide +kernel, rfl, by decide +kernel, by decide +kernel⟩
theorem d_cells_none {P : Program} {w : World} {K : PySem.W.Frag} {mg : Str → Option Value} {base : Heap} {sp : SpD} {k : Nat} (F : Fr0 K mg) (D : Dfn K mg "cells_none" 15 ["size"])
    (hs : ∀ ds c Q, ds.length = 1 → sp ds c Q → t_cells_none (startR N_cells_none ds) c (fun _ c' => Q .non c') Q) : Kn P w K mg base "cells_none" (k + 1) ["size"] sp :=
  have nd := sc_cells_none.nd
  knD D sc_cells_none (t_cells_none) hs fun f cdv A outer s H E τ G c hr =>
    (pssd_one (psd_ret (ppd_rep (ppd_tup (pad_cons (ppd_NONE F (by rfl)) pad_nil)) (ppd_var (pv 0)))))
abbrev N_are_none : List Str := ["row", "part"]
theorem sc_are_none : FnScope N_are_none ["row"] (defScope (top 16)) := ⟨rfl, rfl, rfl, by decide +kernel, rfl, by decide +kernel, by decide +kernel⟩
theorem d_are_none {P : Program} {w : World} {K : PySem.W.Frag} {mg : Str → Option Value} {base : Heap} {sp : SpD} {k : Nat} (F : Fr0 K mg) (D : Dfn K mg "are_none" 16 ["row"])
    (hs : ∀ ds c Q, ds.length = 1 → sp ds c Q → t_are_none (startR N_are_none ds) c (fun _ c' => Q .non c') Q) : Kn P w K mg base "are_none" (k + 1) ["row"] sp :=
  have nd := sc_are_none.nd
  knD D sc_are_none (t_are_none) hs fun f cdv A outer s H E τ G c hr =>
    (pssd_one (psd_ret (ppd_all rfl (by rfl) F.all (pad_cons (pp_of (pfd_lc rfl nd rfl (pid_strong (pid_seq (ppd_var (pv 0)))) (blkOk_by (own := [("part", 1)]) (N := N_are_none) (sc := defScope (top 16)) (by decide +kernel)) (fun _ _ _ _ _ => (pg_name (i := 1) nd rfl (by first | exact Or.inl rfl | exact Or.inr rfl))) (gok_name 1) (by decide) (fun _ _ _ _ _ => ptsd_nil) (fun _ _ _ _ _ => (Cmp.pp (c_eq hr.units (pb_of (ppd_var (pv 1))) (pb_of (ppd_NONE F (by rfl)))))))) pad_nil))))
abbrev N_unit_row : List Str := ["long", "place", "own"]
theorem sc_unit_row : FnScope N_unit_row ["long", "place"] (defScope (top 18)) := ⟨rfl, rfl, rfl, by decide +kernel, rfl, by decide +kernel, by decide +kernel⟩
theorem d_unit_row {P : Program} {w : World} {K : PySem.W.Frag} {mg : Str → Option Value} {base : Heap} {sp : SpD} {k : Nat} (F : Fr0 K mg) (D : Dfn K mg "unit_row" 18 ["long", "place"])
    (hs : ∀ ds c Q, ds.length = 2 → sp ds c Q → t_unit_row (startR N_unit_row ds) c (fun _ c' => Q .non c') Q) : Kn P w K mg base "unit_row" (k + 1) ["long", "place"] sp :=
  have nd := sc_unit_row.nd
  knD D sc_unit_row (t_unit_row) hs fun f cdv A outer s H E τ G c hr =>
    (pssd_one (psd_ret (ppd_tuple (by rfl) F.tuple (pab_cons (pb_of (pp_of (pfd_lc rfl nd rfl (pid_strong (pid_range1 (by rfl) F.range (pad_cons (ppd_var (pv 0)) pad_nil))) (blkOk_by (own := [("own", 2)]) (N := N_unit_row) (sc := defScope (top 18)) (by decide +kernel)) (fun _ _ _ _ _ => (pg_name (i := 2) nd rfl (by first | exact Or.inl rfl | exact Or.inr rfl))) (gok_name 2) (by decide) (fun _ _ _ _ _ => ptsd_nil) (fun _ _ _ _ _ => (ppd_if (Cmp.pt (c_eq hr.units (pb_of (ppd_var (pv 2))) (pb_of (ppd_var (pv 1))))) (ppd_FULL F (by rfl)) (ppd_NONE F (by rfl))))))) pab_nil))))
abbrev N_lead_of : List Str := ["row", "place"]
theorem sc_lead_of : FnScope N_lead_of ["row"] (defScope (top 19)) := ⟨rfl, rfl, rfl, by decide +kernel, rfl, by decide +kernel, by decide +kernel⟩
theorem d_lead_of {P : Program} {w : World} {K : PySem.W.Frag} {mg : Str → Option Value} {base : Heap} {sp : SpD} {k : Nat} (F : Fr0 K mg) (D : Dfn K mg "lead_of" 19 ["row"])
    (hs : ∀ ds c Q, ds.length = 1 → sp ds c Q → t_lead_of (startR N_lead_of ds) c (fun _ c' => Q .non c') Q) : Kn P w K mg base "lead_of" (k + 1) ["row"] sp :=
  have nd := sc_lead_of.nd
  knD D sc_lead_of (t_lead_of) hs fun f cdv A outer s H E τ G c hr =>
    (pssd_cons (psd_set (k := .va) (i := 1) nd rfl (by first | exact Or.inl rfl | exact Or.inr rfl) ppd_int)
      (pssd_cons (psd_while PassesOwn.never (Cmp.pt (c_eq hr.units (pb_of (ppd_ix (pb_of (ppd_var (pv 0))) (ppd_var (pv 1)))) (pb_of (ppd_NONE F (by rfl))))) (pssd_one (psd_aug (i := 1) nd rfl (by first | exact Or.inl rfl | exact Or.inr rfl) ppd_int ip_add)))
      (pssd_one (psd_ret (ppd_var (pv 1))))))
abbrev N_lessened_by : List Str := ["rows", "row", "own", "much"]
theorem sc_lessened_by : FnScope N_lessened_by ["rows", "row"] (defScope (top 20)) := ⟨rfl, rfl, rfl, by decide +kernel, rfl, by decide +kernel, by decide +kernel⟩
theorem d_lessened_by {P : Program} {w : World} {K : PySem.W.Frag} {mg : Str → Option Value} {base : Heap} {sp sp_lead_of sp_cells_plus sp_cells_times sp_part_minus : SpD} {k : Nat} (F : Fr0 K mg) (D : Dfn K mg "lessened_by" 20 ["rows", "row"]) {j_lead_of : Nat} (k_lead_of : Kn P w K mg base "lead_of" j_lead_of ["row"] sp_lead_of) (l_lead_of : j_lead_of ≤ k) {j_cells_plus : Nat} (k_cells_plus : Kn P w K mg base "cells_plus" j_cells_plus ["row", "other"] sp_cells_plus) (l_cells_plus : j_cells_plus ≤ k) {j_cells_times : Nat} (k_cells_times : Kn P w K mg base "cells_times" j_cells_times ["row", "much"] sp_cells_times) (l_cells_times : j_cells_times ≤ k) {j_part_minus : Nat} (k_part_minus : Kn P w K mg base "part_minus" j_part_minus ["one"] sp_part_minus) (l_part_minus : j_part_minus ≤ k)
    (hs : ∀ ds c Q, ds.length = 2 → sp ds c Q → t_lessened_by sp_lead_of sp_cells_plus sp_cells_times sp_part_minus (startR N_lessened_by ds) c (fun _ c' => Q .non c') Q) : Kn P w K mg base "lessened_by" (k + 1) ["rows", "row"] sp :=
  have nd := sc_lessened_by.nd
  knD D sc_lessened_by (t_lessened_by sp_lead_of sp_cells_plus sp_cells_times sp_part_minus) hs fun f cdv A outer s H E τ G c hr =>
    (pssd_cons (psd_for PassesOwn.never rfl (pid_seq (ppd_var (pv 0))) (pg_name (i := 2) nd rfl (by first | exact Or.inl rfl | exact Or.inr rfl)) (gok_name 2) (pssd_cons (psd_set (k := .va) (i := 3) nd rfl (by first | exact Or.inl rfl | exact Or.inr rfl) (ppd_ix (pb_of (ppd_var (pv 1))) (ppd_callK k_lead_of rfl hr (by omega) (by rfl) (pad_cons (ppd_var (pv 2)) pad_nil))))
      (pssd_one (psd_if (Cmp.pt (c_ne hr.units (pb_of (ppd_var (pv 3))) (pb_of (ppd_NONE F (by rfl))))) (pssd_one (psd_set (k := .va) (i := 1) nd rfl (by first | exact Or.inl rfl | exact Or.inr rfl) (ppd_callK k_cells_plus rfl hr (by omega) (by rfl) (pad_cons (ppd_var (pv 1)) (pad_cons (ppd_callK k_cells_times rfl hr (by omega) (by rfl) (pad_cons (ppd_var (pv 2)) (pad_cons (ppd_callK k_part_minus rfl hr (by omega) (by rfl) (pad_cons (ppd_var (pv 3)) pad_nil)) pad_nil))) pad_nil))))) pssd_nil))))
      (pssd_one (psd_ret (ppd_var (pv 1)))))
abbrev N_reduced_rows : List Str := ["rows", "found", "row", "own", "other"]
theorem sc_reduced_rows : FnScope N_reduced_rows ["rows"] (defScope (top 21)) := ⟨rfl, rfl, rfl, by decide +kernel, rfl, by decide +kernel, by decide +kernel⟩
theorem d_reduced_rows {P : Program} {w : World} {K : PySem.W.Frag} {mg : Str → Option Value} {base : Heap} {sp sp_lessened_by sp_are_none sp_cells_times sp_part_over sp_lead_of : SpD} {k : Nat} (F : Fr0 K mg) (D : Dfn K mg "reduced_rows" 21 ["rows"]) {j_lessened_by : Nat} (k_lessened_by : Kn P w K mg base "lessened_by" j_lessened_by ["rows", "row"] sp_lessened_by) (l_lessened_by : j_lessened_by ≤ k) {j_are_none : Nat} (k_are_none : Kn P w K mg base "are_none" j_are_none ["row"] sp_are_none) (l_are_none : j_are_none ≤ k) {j_cells_times : Nat} (k_cells_times : Kn P w K mg base "cells_times" j_cells_times ["row", "much"] sp_cells_times) (l_cells_times : j_cells_times ≤ k) {j_part_over : Nat} (k_part_over : Kn P w K mg base "part_over" j_part_over ["one", "other"] sp_part_over) (l_part_over : j_part_over ≤ k) {j_lead_of : Nat} (k_lead_of : Kn P w K mg base "lead_of" j_lead_of ["row"] sp_lead_of) (l_lead_of : j_lead_of + 2 ≤ k)
    (hs : ∀ ds c Q, ds.length = 1 → sp ds c Q → t_reduced_rows sp_lessened_by sp_are_none sp_cells_times sp_part_over sp_lead_of (startR N_reduced_rows ds) c (fun _ c' => Q .non c') Q) : Kn P w K mg base "reduced_rows" (k + 1) ["rows"] sp :=
  have nd := sc_reduced_rows.nd
  knD D sc_reduced_rows (t_reduced_rows sp_lessened_by sp_are_none sp_cells_times sp_part_over sp_lead_of) hs fun f cdv A outer s H E τ G c hr =>
    (pssd_cons (psd_set (k := .va) (i := 1) nd rfl (by first | exact Or.inl rfl | exact Or.inr rfl) (pp_of (pfd_lst pad_nil)))
      (pssd_cons (psd_for PassesOwn.never rfl (pid_seq (ppd_var (pv 0))) (pg_name (i := 2) nd rfl (by first | exact Or.inl rfl | exact Or.inr rfl)) (gok_name 2) (pssd_cons (psd_set (k := .va) (i := 3) nd rfl (by first | exact Or.inl rfl | exact Or.inr rfl) (ppd_callK k_lessened_by rfl hr (by omega) (by rfl) (pad_cons (ppd_var (pv 1)) (pad_cons (ppd_var (pv 2)) pad_nil))))
      (pssd_one (psd_if (ptd_not (ptd_val (ppd_callK k_are_none rfl hr (by omega) (by rfl) (pad_cons (ppd_var (pv 3)) pad_nil)))) (pssd_cons (psd_set (k := .va) (i := 3) nd rfl (by first | exact Or.inl rfl | exact Or.inr rfl) (ppd_callK k_cells_times rfl hr (by omega) (by rfl) (pad_cons (ppd_var (pv 3)) (pad_cons (ppd_callK k_part_over rfl hr (by omega) (by rfl) (pad_cons (ppd_FULL F (by rfl)) (pad_cons (ppd_ix (pb_of (ppd_var (pv 3))) (ppd_callK k_lead_of rfl hr (by omega) (by rfl) (pad_cons (ppd_var (pv 3)) pad_nil))) pad_nil))) pad_nil))))
      (pssd_one (psd_set (k := .va) (i := 1) nd rfl (by first | exact Or.inl rfl | exact Or.inr rfl) (ppd_add (pb_of (pp_of (pfd_lc rfl nd rfl (pid_strong (pid_seq (ppd_var (pv 1)))) (blkOk_by (own := [("other", 4)]) (N := N_reduced_rows) (sc := defScope (top 21)) (by decide +kernel)) (fun _ _ _ _ _ => (pg_name (i := 4) nd rfl (by first | exact Or.inl rfl | exact Or.inr rfl))) (gok_name 4) (by decide) (fun _ _ _ _ _ => ptsd_nil) (fun _ _ _ _ _ => (ppd_callK k_lessened_by rfl hr (by omega) (by rfl) (pad_cons (pp_of (pfd_lst (pad_cons (ppd_var (pv 3)) pad_nil))) (pad_cons (ppd_var (pv 4)) pad_nil))))))) (pb_of (pp_of (pfd_lst (pad_cons (ppd_var (pv 3)) pad_nil)))))))) pssd_nil))))
      (pssd_one (psd_ret (ppd_tuple (by rfl) F.tuple (pab_cons (pb_of (pp_of (pfd_sortk k_lead_of rfl hr (by omega) (by rfl) F.sorted (by rfl) (pab_cons (pb_of (ppd_var (pv 1))) pab_nil)))) pab_nil))))))
abbrev N_zeros_of : List Str := ["rows", "long", "lines", "leads", "line", "found", "place", "row"]
theorem sc_zeros_of : FnScope N_zeros_of ["rows", "long"] (defScope (top 22)) := ⟨rfl, rfl, rfl, by decide +kernel, rfl, by decide +kernel, by decide +kernel⟩
theorem d_zeros_of {P : Program} {w : World} {K : PySem.W.Frag} {mg : Str → Option Value} {base : Heap} {sp sp_reduced_rows sp_tupled sp_lead_of sp_unit_row sp_part_minus : SpD} {k : Nat} (F : Fr0 K mg) (D : Dfn K mg "zeros_of" 22 ["rows", "long"]) {j_reduced_rows : Nat} (k_reduced_rows : Kn P w K mg base "reduced_rows" j_reduced_rows ["rows"] sp_reduced_rows) (l_reduced_rows : j_reduced_rows ≤ k) {j_tupled : Nat} (k_tupled : Kn P w K mg base "tupled" j_tupled ["thing"] sp_tupled) (l_tupled : j_tupled ≤ k) {j_lead_of : Nat} (k_lead_of : Kn P w K mg base "lead_of" j_lead_of ["row"] sp_lead_of) (l_lead_of : j_lead_of ≤ k) {j_unit_row : Nat} (k_unit_row : Kn P w K mg base "unit_row" j_unit_row ["long", "place"] sp_unit_row) (l_unit_row : j_unit_row ≤ k) {j_part_minus : Nat} (k_part_minus : Kn P w K mg base "part_minus" j_part_minus ["one"] sp_part_minus) (l_part_minus : j_part_minus ≤ k)
    (hs : ∀ ds c Q, ds.length = 2 → sp ds c Q → t_zeros_of sp_reduced_rows sp_tupled sp_lead_of sp_unit_row sp_part_minus (startR N_zeros_of ds) c (fun _ c' => Q .non c') Q) : Kn P w K mg base "zeros_of" (k + 1) ["rows", "long"] sp :=
  have nd := sc_zeros_of.nd
  knD D sc_zeros_of (t_zeros_of sp_reduced_rows sp_tupled sp_lead_of sp_unit_row sp_part_minus) hs fun f cdv A outer s H E τ G c hr =>
    (pssd_cons (psd_set (k := .va) (i := 2) nd rfl (by first | exact Or.inl rfl | exact Or.inr rfl) (ppd_callK k_reduced_rows rfl hr (by omega) (by rfl) (pad_cons (ppd_callK k_tupled rfl hr (by omega) (by rfl) (pad_cons (ppd_var (pv 0)) pad_nil)) pad_nil)))
      (pssd_cons (psd_setLc (k := .va) (i := 3) (by first | exact .inl rfl | exact .inr rfl) rfl nd rfl rfl (sw_true rfl rfl rfl (by decide +kernel)) rfl (pid_strong (pid_seq (ppd_var (pv 2)))) (blkOk_by (own := [("line", 4)]) (N := N_zeros_of) (sc := defScope (top 22)) (by decide +kernel)) (fun _ _ _ _ _ => (pg_name (i := 4) nd rfl (by first | exact Or.inl rfl | exact Or.inr rfl))) (gok_name 4) (by decide) (fun _ _ _ _ _ => ptsd_nil) (fun _ _ _ _ _ => (ppd_callK k_lead_of rfl hr (by omega) (by rfl) (pad_cons (ppd_var (pv 4)) pad_nil))))
      (pssd_cons (psd_set (k := .ow) (i := 5) nd rfl (by first | exact Or.inl rfl | exact Or.inr rfl) (pfd_lst pad_nil))
      (pssd_cons (psd_for PassesOwn.never rfl (pid_range1 (by rfl) F.range (pad_cons (ppd_var (pv 1)) pad_nil)) (pg_name (i := 6) nd rfl (by first | exact Or.inl rfl | exact Or.inr rfl)) (gok_name 6) (pssd_one (psd_if (Cmp.pt (c_notin (ppd_var (pv 6)) (ppd_var (pv 3)) (by rfl))) (pssd_cons (psd_set (k := .ow) (i := 7) nd rfl (by first | exact Or.inl rfl | exact Or.inr rfl) (pfd_list (by rfl) F.list (pab_cons (pb_of (ppd_callK k_unit_row rfl hr (by omega) (by rfl) (pad_cons (ppd_var (pv 1)) (pad_cons (ppd_var (pv 6)) pad_nil)))) pab_nil)))
      (pssd_cons (psd_for PassesOwn.never rfl (pid_seq (ppd_var (pv 2))) (pg_name (i := 4) nd rfl (by first | exact Or.inl rfl | exact Or.inr rfl)) (gok_name 4) (pssd_one (psd_put (pv 7) (ppd_callK k_lead_of rfl hr (by omega) (by rfl) (pad_cons (ppd_var (pv 4)) pad_nil)) (ppd_callK k_part_minus rfl hr (by omega) (by rfl) (pad_cons (ppd_ix (pb_of (ppd_var (pv 4))) (ppd_var (pv 6))) pad_nil)))))
      (pssd_one (psd_append (pv 5) (ppd_tuple (by rfl) F.tuple (pab_cons (pbd_own (pv 7)) pab_nil)))))) pssd_nil)))
      (pssd_frz 5 (pssd_one (psd_ret (ppd_callK k_reduced_rows rfl hr (by omega) (by rfl) (pad_cons (ppd_var (pv 5)) pad_nil)))))))))
abbrev N_columns : List Str := ["noted", "own", "found", "line", "inputs", "cells", "given"]
theorem sc_columns : FnScope N_columns ["noted"] (defScope (top 24)) := ⟨rfl, rfl, rfl, by decide +kernel, rfl, by decide +kernel, by decide +kernel⟩
theorem d_columns {P : Program} {w : World} {K : PySem.W.Frag} {mg : Str → Option Value} {base : Heap} {sp sp_tupled : SpD} {k : Nat} (F : Fr0 K mg) (D : Dfn K mg "columns" 24 ["noted"]) {j_tupled : Nat} (k_tupled : Kn P w K mg base "tupled" j_tupled ["thing"] sp_tupled) (l_tupled : j_tupled ≤ k)
    (hs : ∀ ds c Q, ds.length = 1 → sp ds c Q → t_columns sp_tupled (startR N_columns ds) c (fun _ c' => Q .non c') Q) : Kn P w K mg base "columns" (k + 1) ["noted"] sp :=
  have nd := sc_columns.nd
  knD D sc_columns (t_columns sp_tupled) hs fun f cdv A outer s H E τ G c hr =>
    (pssd_cons (psd_par (k1 := .va) (k2 := .ow) (i := 1) (j := 2) rfl nd rfl rfl (by decide) rfl rfl (ppd_callK k_tupled rfl hr (by omega) (by rfl) (pad_cons (ppd_var (pv 0)) pad_nil)) (pfd_lst pad_nil) (by rfl))
      (pssd_cons (psd_for PassesOwn.never rfl (pid_seq (ppd_ix (pb_of (ppd_var (pv 1))) ppd_int)) (pg_tup rfl (pgs_cons (pg_name (i := 3) nd rfl (by first | exact Or.inl rfl | exact Or.inr rfl)) (pgs_cons (pg_name (i := 4) nd rfl (by first | exact Or.inl rfl | exact Or.inr rfl)) pgs_nil))) (gok_tup (gsok_cons (gok_name 3) (gsok_cons (gok_name 4) gsok_nil))) (pssd_one (psd_extend (pv 2) (pp_of (pfd_lc rfl nd rfl (pid_strong (pid_zip (by rfl) F.zip (pad_cons (ppd_var (pv 3)) (pad_cons (ppd_var (pv 4)) pad_nil)))) (blkOk_by (own := [("cells", 5), ("given", 6)]) (N := N_columns) (sc := defScope (top 24)) (by decide +kernel)) (fun _ _ _ _ _ => (pg_tup rfl (pgs_cons (pg_name (i := 5) nd rfl (by first | exact Or.inl rfl | exact Or.inr rfl)) (pgs_cons (pg_name (i := 6) nd rfl (by first | exact Or.inl rfl | exact Or.inr rfl)) pgs_nil)))) (gok_tup (gsok_cons (gok_name 5) (gsok_cons (gok_name 6) gsok_nil))) (by decide) (fun _ _ _ _ _ => ptsd_nil) (fun _ _ _ _ _ => (ppd_add (pb_of (ppd_var (pv 5))) (pb_of (ppd_var (pv 6))))))))))
      (pssd_one (psd_ret (ppd_tuple (by rfl) F.tuple (pab_cons (pbd_own (pv 2)) pab_nil))))))
abbrev N_next_columns : List Str := ["noted", "line", "_", "cells"]
theorem sc_next_columns : FnScope N_next_columns ["noted"] (defScope (top 25)) := ⟨rfl, rfl, rfl, by decide +kernel, rfl, by decide +kernel, by decide +kernel⟩
theorem d_next_columns {P : Program} {w : World} {K : PySem.W.Frag} {mg : Str → Option Value} {base : Heap} {sp sp_tupled : SpD} {k : Nat} (F : Fr0 K mg) (D : Dfn K mg "next_columns" 25 ["noted"]) {j_tupled : Nat} (k_tupled : Kn P w K mg base "tupled" j_tupled ["thing"] sp_tupled) (l_tupled : j_tupled ≤ k)
    (hs : ∀ ds c Q, ds.length = 1 → sp ds c Q → t_next_columns sp_tupled (startR N_next_columns ds) c (fun _ c' => Q .non c') Q) : Kn P w K mg base "next_columns" (k + 1) ["noted"] sp :=
  have nd := sc_next_columns.nd
  knD D sc_next_columns (t_next_columns sp_tupled) hs fun f cdv A outer s H E τ G c hr =>
    (pssd_one (psd_ret (ppd_tuple (by rfl) F.tuple (pab_cons (pb_of (pp_of (pfd_lc2 (vs1 := [3]) rfl nd rfl (pid_strong (pid_seq (ppd_ix (pb_of (ppd_callK k_tupled rfl hr (by omega) (by rfl) (pad_cons (ppd_var (pv 0)) pad_nil))) ppd_int))) (blkOk_by (own := [("line", 1), ("_", 2), ("cells", 3)]) (N := N_next_columns) (sc := defScope (top 25)) (by decide +kernel)) (by decide) (fun _ _ _ _ _ => (pg_tup rfl (pgs_cons (pg_name (i := 1) nd rfl (by first | exact Or.inl rfl | exact Or.inr rfl)) (pgs_cons (pg_name (i := 2) nd rfl (by first | exact Or.inl rfl | exact Or.inr rfl)) pgs_nil)))) (gok_tup (gsok_cons (gok_name 1) (gsok_cons (gok_name 2) gsok_nil))) (by decide) (fun _ _ _ _ _ => (pid_seq (ppd_slice (pb_of (ppd_var (pv 1))) (pod_some ppd_int) pod_none))) (fun _ _ _ _ _ => (pg_name (i := 3) nd rfl (by first | exact Or.inl rfl | exact Or.inr rfl))) (gok_name 3) (by decide) (fun _ _ _ _ _ => (ppd_var (pv 3)))))) pab_nil))))
abbrev N_weighed : List Str := ["weights", "rows", "size", "found", "part", "row"]
theorem sc_weighed : FnScope N_weighed ["weights", "rows", "size"] (defScope (top 26)) := ⟨rfl, rfl, rfl, by decide +kernel, rfl, by decide +kernel, by decide +kernel⟩
theorem d_weighed {P : Program} {w : World} {K : PySem.W.Frag} {mg : Str → Option Value} {base : Heap} {sp sp_cells_none sp_cells_plus sp_cells_times : SpD} {k : Nat} (F : Fr0 K mg) (D : Dfn K mg "weighed" 26 ["weights", "rows", "size"]) {j_cells_none : Nat} (k_cells_none : Kn P w K mg base "cells_none" j_cells_none ["size"] sp_cells_none) (l_cells_none : j_cells_none ≤ k) {j_cells_plus : Nat} (k_cells_plus : Kn P w K mg base "cells_plus" j_cells_plus ["row", "other"] sp_cells_plus) (l_cells_plus : j_cells_plus ≤ k) {j_cells_times : Nat} (k_cells_times : Kn P w K mg base "cells_times" j_cells_times ["row", "much"] sp_cells_times) (l_cells_times : j_cells_times ≤ k)
    (hs : ∀ ds c Q, ds.length = 3 → sp ds c Q → t_weighed sp_cells_none sp_cells_plus sp_cells_times (startR N_weighed ds) c (fun _ c' => Q .non c') Q) : Kn P w K mg base "weighed" (k + 1) ["weights", "rows", "size"] sp :=
  have nd := sc_weighed.nd
  knD D sc_weighed (t_weighed sp_cells_none sp_cells_plus sp_cells_times) hs fun f cdv A outer s H E τ G c hr =>
    (pssd_cons (psd_set (k := .va) (i := 3) nd rfl (by first | exact Or.inl rfl | exact Or.inr rfl) (ppd_callK k_cells_none rfl hr (by omega) (by rfl) (pad_cons (ppd_var (pv 2)) pad_nil)))
      (pssd_cons (psd_for PassesOwn.never rfl (pid_zip (by rfl) F.zip (pad_cons (ppd_var (pv 0)) (pad_cons (ppd_var (pv 1)) pad_nil))) (pg_tup rfl (pgs_cons (pg_name (i := 4) nd rfl (by first | exact Or.inl rfl | exact Or.inr rfl)) (pgs_cons (pg_name (i := 5) nd rfl (by first | exact Or.inl rfl | exact Or.inr rfl)) pgs_nil))) (gok_tup (gsok_cons (gok_name 4) (gsok_cons (gok_name 5) gsok_nil))) (pssd_one (psd_set (k := .va) (i := 3) nd rfl (by first | exact Or.inl rfl | exact Or.inr rfl) (ppd_callK k_cells_plus rfl hr (by omega) (by rfl) (pad_cons (ppd_var (pv 3)) (pad_cons (ppd_callK k_cells_times rfl hr (by omega) (by rfl) (pad_cons (ppd_var (pv 5)) (pad_cons (ppd_var (pv 4)) pad_nil))) pad_nil))))))
      (pssd_one (psd_ret (ppd_var (pv 3))))))
abbrev N_clash_in : List Str := ["size", "many", "given", "later", "rows", "place", "column", "weights"]
theorem sc_clash_in : FnScope N_clash_in ["size", "many", "given", "later"] (defScope (top 27)) := ⟨rfl, rfl, rfl, by decide +kernel, rfl, by decide +kernel, by decide +kernel⟩
theorem d_clash_in {P : Program} {w : World} {K : PySem.W.Frag} {mg : Str → Option Value} {base : Heap} {sp sp_zeros_of sp_are_none sp_weighed : SpD} {k : Nat} (F : Fr0 K mg) (D : Dfn K mg "clash_in" 27 ["size", "many", "given", "later"]) {j_zeros_of : Nat} (k_zeros_of : Kn P w K mg base "zeros_of" j_zeros_of ["rows", "long"] sp_zeros_of) (l_zeros_of : j_zeros_of ≤ k) {j_are_none : Nat} (k_are_none : Kn P w K mg base "are_none" j_are_none ["row"] sp_are_none) (l_are_none : j_are_none ≤ k) {j_weighed : Nat} (k_weighed : Kn P w K mg base "weighed" j_weighed ["weights", "rows", "size"] sp_weighed) (l_weighed : j_weighed ≤ k)
    (hs : ∀ ds c Q, ds.length = 4 → sp ds c Q → t_clash_in sp_zeros_of sp_are_none sp_weighed (startR N_clash_in ds) c (fun _ c' => Q .non c') Q) : Kn P w K mg base "clash_in" (k + 1) ["size", "many", "given", "later"] sp :=
  have nd := sc_clash_in.nd
  knD D sc_clash_in (t_clash_in sp_zeros_of sp_are_none sp_weighed) hs fun f cdv A outer s H E τ G c hr =>
    (pssd_cons (psd_if (Cmp.pt (c_eq hr.units (pb_of (ppd_len (by rfl) F.len (pab_cons (pb_of (ppd_var (pv 2))) pab_nil))) (pb_of ppd_int))) (pssd_one (psd_ret ppd_non)) pssd_nil)
      (pssd_cons (psd_set (k := .va) (i := 4) nd rfl (by first | exact Or.inl rfl | exact Or.inr rfl) (ppd_tuple (by rfl) F.tuple (pab_cons (pb_of (pp_of (pfd_lc rfl nd rfl (pid_strong (pid_range1 (by rfl) F.range (pad_cons (ppd_add (pb_of (ppd_var (pv 0))) (pb_of (ppd_var (pv 1)))) pad_nil))) (blkOk_by (own := [("place", 5)]) (N := N_clash_in) (sc := defScope (top 27)) (by decide +kernel)) (fun _ _ _ _ _ => (pg_name (i := 5) nd rfl (by first | exact Or.inl rfl | exact Or.inr rfl))) (gok_name 5) (by decide) (fun _ _ _ _ _ => ptsd_nil) (fun _ _ _ _ _ => (ppd_tuple (by rfl) F.tuple (pab_cons (pb_of (pp_of (pfd_lc rfl nd rfl (pid_strong (pid_seq (ppd_var (pv 2)))) (blkOk_by (own := [("column", 6)]) (by rfl)) (fun _ _ _ _ _ => (pg_name (i := 6) nd rfl (by first | exact Or.inl rfl | exact Or.inr rfl))) (gok_name 6) (by decide) (fun _ _ _ _ _ => ptsd_nil) (fun _ _ _ _ _ => (ppd_ix (pb_of (ppd_var (pv 6))) (ppd_var (pv 5))))))) pab_nil)))))) pab_nil)))
      (pssd_cons (psd_for PassesOwn.never rfl (pid_seq (ppd_callK k_zeros_of rfl hr (by omega) (by rfl) (pad_cons (ppd_var (pv 4)) (pad_cons (ppd_len (by rfl) F.len (pab_cons (pb_of (ppd_var (pv 2))) pab_nil)) pad_nil)))) (pg_name (i := 7) nd rfl (by first | exact Or.inl rfl | exact Or.inr rfl)) (gok_name 7) (pssd_one (psd_if (ptd_not (ptd_val (ppd_callK k_are_none rfl hr (by omega) (by rfl) (pad_cons (ppd_callK k_weighed rfl hr (by omega) (by rfl) (pad_cons (ppd_var (pv 7)) (pad_cons (ppd_var (pv 3)) (pad_cons (ppd_var (pv 0)) pad_nil)))) pad_nil)))) (pssd_one (psd_ret (ppd_var (pv 7)))) pssd_nil)))
      (pssd_one (psd_ret ppd_non)))))
abbrev N_found_clash : List Str := ["noted"]
theorem sc_found_clash : FnScope N_found_clash ["noted"] (defScope (top 28)) := ⟨rfl, rfl, rfl, by decide +kernel, rfl, by decide +kernel, by decide +kernel⟩
theorem d_found_clash {P : Program} {w : World} {K : PySem.W.Frag} {mg : Str → Option Value} {base : Heap} {sp sp_clash_in sp_columns sp_next_columns : SpD} {k : Nat} (F : Fr0 K mg) (D : Dfn K mg "found_clash" 28 ["noted"]) {j_clash_in : Nat} (k_clash_in : Kn P w K mg base "clash_in" j_clash_in ["size", "many", "given", "later"] sp_clash_in) (l_clash_in : j_clash_in ≤ k) {j_columns : Nat} (k_columns : Kn P w K mg base "columns" j_columns ["noted"] sp_columns) (l_columns : j_columns ≤ k) {j_next_columns : Nat} (k_next_columns : Kn P w K mg base "next_columns" j_next_columns ["noted"] sp_next_columns) (l_next_columns : j_next_columns ≤ k)
    (hs : ∀ ds c Q, ds.length = 1 → sp ds c Q → t_found_clash sp_clash_in sp_columns sp_next_columns (startR N_found_clash ds) c (fun _ c' => Q .non c') Q) : Kn P w K mg base "found_clash" (k + 1) ["noted"] sp :=
  have nd := sc_found_clash.nd
  knD D sc_found_clash (t_found_clash sp_clash_in sp_columns sp_next_columns) hs fun f cdv A outer s H E τ G c hr =>
    (pssd_one (psd_ret (ppd_callK k_clash_in rfl hr (by omega) (by rfl) (pad_cons (ppd_ix (pb_of (ppd_var (pv 0))) ppd_int) (pad_cons (ppd_ix (pb_of (ppd_var (pv 0))) ppd_int) (pad_cons (ppd_callK k_columns rfl hr (by omega) (by rfl) (pad_cons (ppd_var (pv 0)) pad_nil)) (pad_cons (ppd_callK k_next_columns rfl hr (by omega) (by rfl) (pad_cons (ppd_var (pv 0)) pad_nil)) pad_nil)))))))
abbrev N_could_be : List Str := ["noted"]
theorem sc_could_be : FnScope N_could_be ["noted"] (defScope (top 29)) := ⟨rfl, rfl, rfl, by decide +kernel, rfl, by decide +kernel, by decide +kernel⟩
theorem d_could_be {P : Program} {w : World} {K : PySem.W.Frag} {mg : Str → Option Value} {base : Heap} {sp sp_found_clash : SpD} {k : Nat} (F : Fr0 K mg) (D : Dfn K mg "could_be" 29 ["noted"]) {j_found_clash : Nat} (k_found_clash : Kn P w K mg base "found_clash" j_found_clash ["noted"] sp_found_clash) (l_found_clash : j_found_clash ≤ k)
    (hs : ∀ ds c Q, ds.length = 1 → sp ds c Q → t_could_be sp_found_clash (startR N_could_be ds) c (fun _ c' => Q .non c') Q) : Kn P w K mg base "could_be" (k + 1) ["noted"] sp :=
  have nd := sc_could_be.nd
  knD D sc_could_be (t_could_be sp_found_clash) hs fun f cdv A outer s H E τ G c hr =>
    (pssd_one (psd_ret (ppd_isN (ppd_callK k_found_clash rfl hr (by omega) (by rfl) (pad_cons (ppd_var (pv 0)) pad_nil)))))
abbrev N_part_noted : List Str := ["piece", "first", "last", "line", "inputs"]
theorem sc_part_noted : FnScope N_part_noted ["piece", "first", "last"] (defScope (top 31)) := ⟨rfl, rfl, rfl, by decide +kernel, rfl, by decide +kernel, by decide +kernel⟩
theorem d_part_noted {P : Program} {w : World} {K : PySem.W.Frag} {mg : Str → Option Value} {base : Heap} {sp : SpD} {k : Nat} (F : Fr0 K mg) (D : Dfn K mg "part_noted" 31 ["piece", "first", "last"])
    (hs : ∀ ds c Q, ds.length = 3 → sp ds c Q → t_part_noted (startR N_part_noted ds) c (fun _ c' => Q .non c') Q) : Kn P w K mg base "part_noted" (k + 1) ["piece", "first", "last"] sp :=
  have nd := sc_part_noted.nd
  knD D sc_part_noted (t_part_noted) hs fun f cdv A outer s H E τ G c hr =>
    (pssd_cons (psd_asg (ppd_var (pv 0)) (pg_tup rfl (pgs_cons (pg_name (i := 3) nd rfl (by first | exact Or.inl rfl | exact Or.inr rfl)) (pgs_cons (pg_name (i := 4) nd rfl (by first | exact Or.inl rfl | exact Or.inr rfl)) pgs_nil))) (gok_tup (gsok_cons (gok_name 3) (gsok_cons (gok_name 4) gsok_nil))))
      (pssd_one (psd_ret (ppd_tup (pad_cons (ppd_len (by rfl) F.len (pab_cons (pb_of (ppd_ix (pb_of (ppd_var (pv 3))) ppd_int)) pab_nil)) (pad_cons (ppd_len (by rfl) F.len (pab_cons (pb_of (ppd_ix (pb_of (ppd_var (pv 4))) ppd_int)) pab_nil)) (pad_cons (ppd_tup (pad_cons (ppd_tup (pad_cons (ppd_slice (pb_of (ppd_var (pv 3))) (pod_some (ppd_var (pv 1))) (pod_some (ppd_add (pb_of (ppd_var (pv 2))) (pb_of ppd_int)))) (pad_cons (ppd_slice (pb_of (ppd_var (pv 4))) (pod_some (ppd_var (pv 1))) (pod_some (ppd_var (pv 2)))) pad_nil))) pad_nil)) pad_nil)))))))
abbrev N_fits_between : List Str := ["piece", "first", "last"]
theorem sc_fits_between : FnScope N_fits_between ["piece", "first", "last"] (defScope (top 32)) := ⟨rfl, rfl, rfl, by decide +kernel, rfl, by decide +kernel, by decide +kernel⟩
theorem d_fits_between {P : Program} {w : World} {K : PySem.W.Frag} {mg : Str → Option Value} {base : Heap} {sp sp_could_be sp_part_noted : SpD} {k : Nat} (F : Fr0 K mg) (D : Dfn K mg "fits_between" 32 ["piece", "first", "last"]) {j_could_be : Nat} (k_could_be : Kn P w K mg base "could_be" j_could_be ["noted"] sp_could_be) (l_could_be : j_could_be ≤ k) {j_part_noted : Nat} (k_part_noted : Kn P w K mg base "part_noted" j_part_noted ["piece", "first", "last"] sp_part_noted) (l_part_noted : j_part_noted ≤ k)
    (hs : ∀ ds c Q, ds.length = 3 → sp ds c Q → t_fits_between sp_could_be sp_part_noted (startR N_fits_between ds) c (fun _ c' => Q .non c') Q) : Kn P w K mg base "fits_between" (k + 1) ["piece", "first", "last"] sp :=
  have nd := sc_fits_between.nd
  knD D sc_fits_between (t_fits_between sp_could_be sp_part_noted) hs fun f cdv A outer s H E τ G c hr =>
    (pssd_one (psd_ret (ppd_callK k_could_be rfl hr (by omega) (by rfl) (pad_cons (ppd_callK k_part_noted rfl hr (by omega) (by rfl) (pad_cons (ppd_var (pv 0)) (pad_cons (ppd_var (pv 1)) (pad_cons (ppd_var (pv 2)) pad_nil)))) pad_nil))))
abbrev N_part_fits : List Str := ["piece", "first", "last", "own", "number"]
theorem sc_part_fits : FnScope N_part_fits ["piece", "first", "last"] (defScope (top 33)) := ⟨rfl, rfl, rfl, by decide +kernel, rfl, by decide +kernel, by decide +kernel⟩
theorem d_part_fits {P : Program} {w : World} {K : PySem.W.Frag} {mg : Str → Option Value} {base : Heap} {sp sp_tupled sp_fits_between : SpD} {k : Nat} (F : Fr0 K mg) (D : Dfn K mg "part_fits" 33 ["piece", "first", "last"]) {j_tupled : Nat} (k_tupled : Kn P w K mg base "tupled" j_tupled ["thing"] sp_tupled) (l_tupled : j_tupled ≤ k) {j_fits_between : Nat} (k_fits_between : Kn P w K mg base "fits_between" j_fits_between ["piece", "first", "last"] sp_fits_between) (l_fits_between : j_fits_between ≤ k)
    (hs : ∀ ds c Q, ds.length = 3 → sp ds c Q → t_part_fits sp_tupled sp_fits_between (startR N_part_fits ds) c (fun _ c' => Q .non c') Q) : Kn P w K mg base "part_fits" (k + 1) ["piece", "first", "last"] sp :=
  have nd := sc_part_fits.nd
  knD D sc_part_fits (t_part_fits sp_tupled sp_fits_between) hs fun f cdv A outer s H E τ G c hr =>
    (pssd_cons (psd_set (k := .va) (i := 3) nd rfl (by first | exact Or.inl rfl | exact Or.inr rfl) (ppd_callK k_tupled rfl hr (by omega) (by rfl) (pad_cons (ppd_var (pv 0)) pad_nil)))
      (pssd_cons (psd_for PassesOwn.never rfl (pid_seq (ppd_tup (pad_cons (ppd_var (pv 1)) (pad_cons (ppd_var (pv 2)) pad_nil)))) (pg_name (i := 4) nd rfl (by first | exact Or.inl rfl | exact Or.inr rfl)) (gok_name 4) (pssd_one (psd_if (ptd_not (ptd_lele ppd_int (ppd_var (pv 4)) (ppd_len (by rfl) F.len (pab_cons (pb_of (ppd_ix (pb_of (ppd_var (pv 3))) ppd_int)) pab_nil)))) (pssd_one psd_never) pssd_nil)))
      (pssd_cons (psd_if (Cmp.pt (c_ge (ppd_var (pv 1)) (ppd_var (pv 2)))) (pssd_one psd_never) pssd_nil)
      (pssd_one (psd_ret (ppd_callK k_fits_between rfl hr (by omega) (by rfl) (pad_cons (ppd_var (pv 3)) (pad_cons (ppd_var (pv 1)) (pad_cons (ppd_var (pv 2)) pad_nil)))))))))
abbrev N_front_ends : List Str := ["piece", "size", "found", "first", "last"]
theorem sc_front_ends : FnScope N_front_ends ["piece", "size"] (defScope (top 34)) := ⟨rfl, rfl, rfl, by decide +kernel, rfl, by decide +kernel, by decide +kernel⟩
theorem d_front_ends {P : Program} {w : World} {K : PySem.W.Frag} {mg : Str → Option Value} {base : Heap} {sp sp_fits_between : SpD} {k : Nat} (F : Fr0 K mg) (D : Dfn K mg "front_ends" 34 ["piece", "size"]) {j_fits_between : Nat} (k_fits_between : Kn P w K mg base "fits_between" j_fits_between ["piece", "first", "last"] sp_fits_between) (l_fits_between : j_fits_between ≤ k)
    (hs : ∀ ds c Q, ds.length = 2 → sp ds c Q → t_front_ends sp_fits_between (startR N_front_ends ds) c (fun _ c' => Q .non c') Q) : Kn P w K mg base "front_ends" (k + 1) ["piece", "size"] sp :=
  have nd := sc_front_ends.nd
  knD D sc_front_ends (t_front_ends sp_fits_between) hs fun f cdv A outer s H E τ G c hr =>
    (pssd_cons (psd_par (k1 := .ow) (k2 := .va) (i := 2) (j := 3) rfl nd rfl rfl (by decide) rfl rfl (pfd_lst pad_nil) ppd_int (by rfl))
      (pssd_cons (psd_while PassesOwn.never (Cmp.pt (c_lt (ppd_var (pv 3)) (ppd_var (pv 1)))) (pssd_cons (psd_set (k := .va) (i := 4) nd rfl (by first | exact Or.inl rfl | exact Or.inr rfl) (ppd_var (pv 3)))
      (pssd_cons (psd_while PassesOwn.never (ptd_w (pwd_and (Cmp.pt (c_lt (ppd_var (pv 4)) (ppd_var (pv 1)))) (pwd_and1 (ptd_val (ppd_callK k_fits_between rfl hr (by omega) (by rfl) (pad_cons (ppd_var (pv 0)) (pad_cons (ppd_var (pv 3)) (pad_cons (ppd_add (pb_of (ppd_var (pv 4))) (pb_of ppd_int)) pad_nil)))))))) (pssd_one (psd_aug (i := 4) nd rfl (by first | exact Or.inl rfl | exact Or.inr rfl) ppd_int ip_add)))
      (pssd_cons (psd_if (Cmp.pt (c_eq hr.units (pb_of (ppd_var (pv 4))) (pb_of (ppd_var (pv 3))))) (pssd_one (psd_ret ppd_non)) pssd_nil)
      (pssd_cons (psd_append (pv 2) (ppd_var (pv 4)))
      (pssd_one (psd_set (k := .va) (i := 3) nd rfl (by first | exact Or.inl rfl | exact Or.inr rfl) (ppd_var (pv 4)))))))))
      (pssd_frz 2 (pssd_one (psd_ret (ppd_var (pv 2)))))))
abbrev N_back_starts : List Str := ["piece", "size", "found", "last", "first"]
theorem sc_back_starts : FnScope N_back_starts ["piece", "size"] (defScope (top 35)) := ⟨rfl, rfl, rfl, by decide +kernel, rfl, by decide +kernel, by decide +kernel⟩
theorem d_back_starts {P : Program} {w : World} {K : PySem.W.Frag} {mg : Str → Option Value} {base : Heap} {sp sp_fits_between : SpD} {k : Nat} (F : Fr0 K mg) (D : Dfn K mg "back_starts" 35 ["piece", "size"]) {j_fits_between : Nat} (k_fits_between : Kn P w K mg base "fits_between" j_fits_between ["piece", "first", "last"] sp_fits_between) (l_fits_between : j_fits_between ≤ k)
    (hs : ∀ ds c Q, ds.length = 2 → sp ds c Q → t_back_starts sp_fits_between (startR N_back_starts ds) c (fun _ c' => Q .non c') Q) : Kn P w K mg base "back_starts" (k + 1) ["piece", "size"] sp :=
  have nd := sc_back_starts.nd
  knD D sc_back_starts (t_back_starts sp_fits_between) hs fun f cdv A outer s H E τ G c hr =>
    (pssd_cons (psd_par (k1 := .ow) (k2 := .va) (i := 2) (j := 3) rfl nd rfl rfl (by decide) rfl rfl (pfd_lst pad_nil) (ppd_var (pv 1)) (by rfl))
      (pssd_cons (psd_while PassesOwn.never (Cmp.pt (c_gt (ppd_var (pv 3)) ppd_int)) (pssd_cons (psd_set (k := .va) (i := 4) nd rfl (by first | exact Or.inl rfl | exact Or.inr rfl) (ppd_sub (ppd_var (pv 3)) ppd_int))
      (pssd_cons (psd_while PassesOwn.never (ptd_w (pwd_and (Cmp.pt (c_gt (ppd_var (pv 4)) ppd_int)) (pwd_and1 (ptd_val (ppd_callK k_fits_between rfl hr (by omega) (by rfl) (pad_cons (ppd_var (pv 0)) (pad_cons (ppd_sub (ppd_var (pv 4)) ppd_int) (pad_cons (ppd_var (pv 3)) pad_nil)))))))) (pssd_one (psd_aug (i := 4) nd rfl (by first | exact Or.inl rfl | exact Or.inr rfl) ppd_int ip_sub)))
      (pssd_cons (psd_append (pv 2) (ppd_var (pv 4)))
      (pssd_one (psd_set (k := .va) (i := 3) nd rfl (by first | exact Or.inl rfl | exact Or.inr rfl) (ppd_var (pv 4))))))))
      (pssd_one (psd_ret (ppd_rev (pbd_own (pv 2)))))))
abbrev N_fewest_changes : List Str := ["piece", "own", "ends"]
theorem sc_fewest_changes : FnScope N_fewest_changes ["piece"] (defScope (top 36)) := ⟨rfl, rfl, rfl, by decide +kernel, rfl, by decide +kernel, by decide +kernel⟩
theorem d_fewest_changes {P : Program} {w : World} {K : PySem.W.Frag} {mg : Str → Option Value} {base : Heap} {sp sp_tupled sp_front_ends : SpD} {k : Nat} (F : Fr0 K mg) (D : Dfn K mg "fewest_changes" 36 ["piece"]) {j_tupled : Nat} (k_tupled : Kn P w K mg base "tupled" j_tupled ["thing"] sp_tupled) (l_tupled : j_tupled ≤ k) {j_front_ends : Nat} (k_front_ends : Kn P w K mg base "front_ends" j_front_ends ["piece", "size"] sp_front_ends) (l_front_ends : j_front_ends ≤ k)
    (hs : ∀ ds c Q, ds.length = 1 → sp ds c Q → t_fewest_changes sp_tupled sp_front_ends (startR N_fewest_changes ds) c (fun _ c' => Q .non c') Q) : Kn P w K mg base "fewest_changes" (k + 1) ["piece"] sp :=
  have nd := sc_fewest_changes.nd
  knD D sc_fewest_changes (t_fewest_changes sp_tupled sp_front_ends) hs fun f cdv A outer s H E τ G c hr =>
    (pssd_cons (psd_set (k := .va) (i := 1) nd rfl (by first | exact Or.inl rfl | exact Or.inr rfl) (ppd_callK k_tupled rfl hr (by omega) (by rfl) (pad_cons (ppd_var (pv 0)) pad_nil)))
      (pssd_cons (psd_set (k := .va) (i := 2) nd rfl (by first | exact Or.inl rfl | exact Or.inr rfl) (ppd_callK k_front_ends rfl hr (by omega) (by rfl) (pad_cons (ppd_var (pv 1)) (pad_cons (ppd_len (by rfl) F.len (pab_cons (pb_of (ppd_ix (pb_of (ppd_var (pv 1))) ppd_int)) pab_nil)) pad_nil))))
      (pssd_one (psd_ret (ppd_if (ptd_isN (ppd_var (pv 2))) ppd_non (ppd_sub (ppd_len (by rfl) F.len (pab_cons (pb_of (ppd_var (pv 2))) pab_nil)) ppd_int))))))
abbrev N_latest_changes : List Str := ["piece", "own", "ends"]
theorem sc_latest_changes : FnScope N_latest_changes ["piece"] (defScope (top 37)) := ⟨rfl, rfl, rfl, by decide +kernel, rfl, by decide +kernel, by decide +kernel⟩
theorem d_latest_changes {P : Program} {w : World} {K : PySem.W.Frag} {mg : Str → Option Value} {base : Heap} {sp sp_tupled sp_front_ends : SpD} {k : Nat} (F : Fr0 K mg) (D : Dfn K mg "latest_changes" 37 ["piece"]) {j_tupled : Nat} (k_tupled : Kn P w K mg base "tupled" j_tupled ["thing"] sp_tupled) (l_tupled : j_tupled ≤ k) {j_front_ends : Nat} (k_front_ends : Kn P w K mg base "front_ends" j_front_ends ["piece", "size"] sp_front_ends) (l_front_ends : j_front_ends ≤ k)
    (hs : ∀ ds c Q, ds.length = 1 → sp ds c Q → t_latest_changes sp_tupled sp_front_ends (startR N_latest_changes ds) c (fun _ c' => Q .non c') Q) : Kn P w K mg base "latest_changes" (k + 1) ["piece"] sp :=
  have nd := sc_latest_changes.nd
  knD D sc_latest_changes (t_latest_changes sp_tupled sp_front_ends) hs fun f cdv A outer s H E τ G c hr =>
    (pssd_cons (psd_set (k := .va) (i := 1) nd rfl (by first | exact Or.inl rfl | exact Or.inr rfl) (ppd_callK k_tupled rfl hr (by omega) (by rfl) (pad_cons (ppd_var (pv 0)) pad_nil)))
      (pssd_cons (psd_set (k := .va) (i := 2) nd rfl (by first | exact Or.inl rfl | exact Or.inr rfl) (ppd_callK k_front_ends rfl hr (by omega) (by rfl) (pad_cons (ppd_var (pv 1)) (pad_cons (ppd_len (by rfl) F.len (pab_cons (pb_of (ppd_ix (pb_of (ppd_var (pv 1))) ppd_int)) pab_nil)) pad_nil))))
      (pssd_cons (psd_if (ptd_isN (ppd_var (pv 2))) (pssd_one psd_never) pssd_nil)
      (pssd_one (psd_ret (ppd_tuple (by rfl) F.tuple (pab_cons (pb_of (ppd_slice (pb_of (ppd_var (pv 2))) pod_none (pod_some (ppd_neg ppd_int)))) pab_nil)))))))
abbrev N_earliest_changes : List Str := ["piece", "own"]
theorem sc_earliest_changes : FnScope N_earliest_changes ["piece"] (defScope (top 38)) := ⟨rfl, rfl, rfl, by decide +kernel, rfl, by decide +kernel, by decide +kernel⟩
theorem d_earliest_changes {P : Program} {w : World} {K : PySem.W.Frag} {mg : Str → Option Value} {base : Heap} {sp sp_tupled sp_fewest_changes sp_back_starts : SpD} {k : Nat} (F : Fr0 K mg) (D : Dfn K mg "earliest_changes" 38 ["piece"]) {j_tupled : Nat} (k_tupled : Kn P w K mg base "tupled" j_tupled ["thing"] sp_tupled) (l_tupled : j_tupled ≤ k) {j_fewest_changes : Nat} (k_fewest_changes : Kn P w K mg base "fewest_changes" j_fewest_changes ["piece"] sp_fewest_changes) (l_fewest_changes : j_fewest_changes ≤ k) {j_back_starts : Nat} (k_back_starts : Kn P w K mg base "back_starts" j_back_starts ["piece", "size"] sp_back_starts) (l_back_starts : j_back_starts ≤ k)
    (hs : ∀ ds c Q, ds.length = 1 → sp ds c Q → t_earliest_changes sp_tupled sp_fewest_changes sp_back_starts (startR N_earliest_changes ds) c (fun _ c' => Q .non c') Q) : Kn P w K mg base "earliest_changes" (k + 1) ["piece"] sp :=
  have nd := sc_earliest_changes.nd
  knD D sc_earliest_changes (t_earliest_changes sp_tupled sp_fewest_changes sp_back_starts) hs fun f cdv A outer s H E τ G c hr =>
    (pssd_cons (psd_set (k := .va) (i := 1) nd rfl (by first | exact Or.inl rfl | exact Or.inr rfl) (ppd_callK k_tupled rfl hr (by omega) (by rfl) (pad_cons (ppd_var (pv 0)) pad_nil)))
      (pssd_cons (psd_if (ptd_isN (ppd_callK k_fewest_changes rfl hr (by omega) (by rfl) (pad_cons (ppd_var (pv 1)) pad_nil))) (pssd_one psd_never) pssd_nil)
      (pssd_one (psd_ret (ppd_tuple (by rfl) F.tuple (pab_cons (pb_of (ppd_slice (pb_of (ppd_callK k_back_starts rfl hr (by omega) (by rfl) (pad_cons (ppd_var (pv 1)) (pad_cons (ppd_len (by rfl) F.len (pab_cons (pb_of (ppd_ix (pb_of (ppd_var (pv 1))) ppd_int)) pab_nil)) pad_nil)))) (pod_some ppd_int) pod_none)) pab_nil))))))
abbrev N_could_change : List Str := ["piece", "tick", "low", "high"]
theorem sc_could_change : FnScope N_could_change ["piece", "tick"] (defScope (top 39)) := ⟨rfl, rfl, rfl, by decide +kernel, rfl, by decide +kernel, by decide +kernel⟩
theorem d_could_change {P : Program} {w : World} {K : PySem.W.Frag} {mg : Str → Option Value} {base : Heap} {sp sp_earliest_changes sp_latest_changes : SpD} {k : Nat} (F : Fr0 K mg) (D : Dfn K mg "could_change" 39 ["piece", "tick"]) {j_earliest_changes : Nat} (k_earliest_changes : Kn P w K mg base "earliest_changes" j_earliest_changes ["piece"] sp_earliest_changes) (l_earliest_changes : j_earliest_changes ≤ k) {j_latest_changes : Nat} (k_latest_changes : Kn P w K mg base "latest_changes" j_latest_changes ["piece"] sp_latest_changes) (l_latest_changes : j_latest_changes ≤ k)
    (hs : ∀ ds c Q, ds.length = 2 → sp ds c Q → t_could_change sp_earliest_changes sp_latest_changes (startR N_could_change ds) c (fun _ c' => Q .non c') Q) : Kn P w K mg base "could_change" (k + 1) ["piece", "tick"] sp :=
  have nd := sc_could_change.nd
  knD D sc_could_change (t_could_change sp_earliest_changes sp_latest_changes) hs fun f cdv A outer s H E τ G c hr =>
    (pssd_one (psd_ret (ppd_any rfl (by rfl) F.any (pad_cons (pp_of (pfd_lc rfl nd rfl (pid_strong (pid_zip (by rfl) F.zip (pad_cons (ppd_callK k_earliest_changes rfl hr (by omega) (by rfl) (pad_cons (ppd_var (pv 0)) pad_nil)) (pad_cons (ppd_callK k_latest_changes rfl hr (by omega) (by rfl) (pad_cons (ppd_var (pv 0)) pad_nil)) pad_nil)))) (blkOk_by (own := [("low", 2), ("high", 3)]) (N := N_could_change) (sc := defScope (top 39)) (by decide +kernel)) (fun _ _ _ _ _ => (pg_tup rfl (pgs_cons (pg_name (i := 2) nd rfl (by first | exact Or.inl rfl | exact Or.inr rfl)) (pgs_cons (pg_name (i := 3) nd rfl (by first | exact Or.inl rfl | exact Or.inr rfl)) pgs_nil)))) (gok_tup (gsok_cons (gok_name 2) (gsok_cons (gok_name 3) gsok_nil))) (by decide) (fun _ _ _ _ _ => ptsd_nil) (fun _ _ _ _ _ => (ppd_lele (ppd_var (pv 2)) (ppd_var (pv 1)) (ppd_var (pv 3)))))) pad_nil))))
abbrev N_parts_around : List Str := ["ends", "starts", "low", "high", "size", "ahead", "end", "start"]
theorem sc_parts_around : FnScope N_parts_around ["ends", "starts", "low", "high", "size"] (defScope (top 40)) := ⟨rfl, rfl, rfl, by decide +kernel, rfl, by decide +kernel, by decide +kernel⟩
theorem d_parts_around {P : Program} {w : World} {K : PySem.W.Frag} {mg : Str → Option Value} {base : Heap} {sp : SpD} {k : Nat} (F : Fr0 K mg) (D : Dfn K mg "parts_around" 40 ["ends", "starts", "low", "high", "size"])
    (hs : ∀ ds c Q, ds.length = 5 → sp ds c Q → t_parts_around (startR N_parts_around ds) c (fun _ c' => Q .non c') Q) : Kn P w K mg base "parts_around" (k + 1) ["ends", "starts", "low", "high", "size"] sp :=
  have nd := sc_parts_around.nd
  knD D sc_parts_around (t_parts_around) hs fun f cdv A outer s H E τ G c hr =>
    (pssd_cons (psd_set (k := .va) (i := 5) nd rfl (by first | exact Or.inl rfl | exact Or.inr rfl) (ppd_if (Cmp.pt (c_eq hr.units (pb_of (ppd_var (pv 2))) (pb_of ppd_int))) ppd_int (ppd_add (pb_of ppd_int) (pb_of (ppd_len (by rfl) F.len (pab_cons (pb_of (pp_of (pfd_lc rfl nd rfl (pid_strong (pid_seq (ppd_var (pv 0)))) (blkOk_by (own := [("end", 6)]) (N := N_parts_around) (sc := defScope (top 40)) (by decide +kernel)) (fun _ _ _ _ _ => (pg_name (i := 6) nd rfl (by first | exact Or.inl rfl | exact Or.inr rfl))) (gok_name 6) (by decide) (fun _ _ _ _ _ => (ptsd_one (Cmp.pt (c_lt (ppd_var (pv 6)) (ppd_var (pv 2)))))) (fun _ _ _ _ _ => (ppd_var (pv 6)))))) pab_nil))))))
      (pssd_one (psd_ret (ppd_add (pb_of (ppd_add (pb_of (ppd_var (pv 5))) (pb_of ppd_int))) (pb_of (ppd_if (Cmp.pt (c_eq hr.units (pb_of (ppd_var (pv 3))) (pb_of (ppd_var (pv 4))))) ppd_int (ppd_add (pb_of ppd_int) (pb_of (ppd_len (by rfl) F.len (pab_cons (pb_of (pp_of (pfd_lc rfl nd rfl (pid_strong (pid_seq (ppd_var (pv 1)))) (blkOk_by (own := [("start", 7)]) (N := N_parts_around) (sc := defScope (top 40)) (by decide +kernel)) (fun _ _ _ _ _ => (pg_name (i := 7) nd rfl (by first | exact Or.inl rfl | exact Or.inr rfl))) (gok_name 7) (by decide) (fun _ _ _ _ _ => (ptsd_one (Cmp.pt (c_gt (ppd_var (pv 7)) (ppd_var (pv 3)))))) (fun _ _ _ _ _ => (ppd_var (pv 7)))))) pab_nil))))))))))
abbrev N_sure_change : List Str := ["piece", "first", "last", "own", "size", "ends", "starts", "low", "tick", "high"]
theorem sc_sure_change : FnScope N_sure_change ["piece", "first", "last"] (defScope (top 41)) := ⟨rfl, rfl, rfl, by decide +kernel, rfl, by decide +kernel, by decide +kernel⟩
theorem d_sure_change {P : Program} {w : World} {K : PySem.W.Frag} {mg : Str → Option Value} {base : Heap} {sp sp_tupled sp_front_ends sp_back_starts sp_parts_around sp_fits_between : SpD} {k : Nat} (F : Fr0 K mg) (D : Dfn K mg "sure_change" 41 ["piece", "first", "last"]) {j_tupled : Nat} (k_tupled : Kn P w K mg base "tupled" j_tupled ["thing"] sp_tupled) (l_tupled : j_tupled ≤ k) {j_front_ends : Nat} (k_front_ends : Kn P w K mg base "front_ends" j_front_ends ["piece", "size"] sp_front_ends) (l_front_ends : j_front_ends ≤ k) {j_back_starts : Nat} (k_back_starts : Kn P w K mg base "back_starts" j_back_starts ["piece", "size"] sp_back_starts) (l_back_starts : j_back_starts ≤ k) {j_parts_around : Nat} (k_parts_around : Kn P w K mg base "parts_around" j_parts_around ["ends", "starts", "low", "high", "size"] sp_parts_around) (l_parts_around : j_parts_around ≤ k) {j_fits_between : Nat} (k_fits_between : Kn P w K mg base "fits_between" j_fits_between ["piece", "first", "last"] sp_fits_between) (l_fits_between : j_fits_between ≤ k)
    (hs : ∀ ds c Q, ds.length = 3 → sp ds c Q → t_sure_change sp_tupled sp_front_ends sp_back_starts sp_parts_around sp_fits_between (startR N_sure_change ds) c (fun _ c' => Q .non c') Q) : Kn P w K mg base "sure_change" (k + 1) ["piece", "first", "last"] sp :=
  have nd := sc_sure_change.nd
  knD D sc_sure_change (t_sure_change sp_tupled sp_front_ends sp_back_starts sp_parts_around sp_fits_between) hs fun f cdv A outer s H E τ G c hr =>
    (pssd_cons (psd_set (k := .va) (i := 3) nd rfl (by first | exact Or.inl rfl | exact Or.inr rfl) (ppd_callK k_tupled rfl hr (by omega) (by rfl) (pad_cons (ppd_var (pv 0)) pad_nil)))
      (pssd_cons (psd_set (k := .va) (i := 4) nd rfl (by first | exact Or.inl rfl | exact Or.inr rfl) (ppd_len (by rfl) F.len (pab_cons (pb_of (ppd_ix (pb_of (ppd_var (pv 3))) ppd_int)) pab_nil)))
      (pssd_cons (psd_set (k := .va) (i := 5) nd rfl (by first | exact Or.inl rfl | exact Or.inr rfl) (ppd_callK k_front_ends rfl hr (by omega) (by rfl) (pad_cons (ppd_var (pv 3)) (pad_cons (ppd_var (pv 4)) pad_nil))))
      (pssd_cons (psd_if (ptd_isN (ppd_var (pv 5))) (pssd_one psd_never) pssd_nil)
      (pssd_cons (psd_set (k := .va) (i := 6) nd rfl (by first | exact Or.inl rfl | exact Or.inr rfl) (ppd_callK k_back_starts rfl hr (by omega) (by rfl) (pad_cons (ppd_var (pv 3)) (pad_cons (ppd_var (pv 4)) pad_nil))))
      (pssd_cons (psd_for PassesOwn.never rfl (pid_seq (pp_of (pfd_lc rfl nd rfl (pid_strong (pid_range1 (by rfl) F.range (pad_cons (ppd_var (pv 4)) pad_nil))) (blkOk_by (own := [("tick", 8)]) (N := N_sure_change) (sc := defScope (top 41)) (by decide +kernel)) (fun _ _ _ _ _ => (pg_name (i := 8) nd rfl (by first | exact Or.inl rfl | exact Or.inr rfl))) (gok_name 8) (by decide) (fun _ _ _ _ _ => (ptsd_one (ptd_w (pwd_or (Cmp.pt (c_eq hr.units (pb_of (ppd_var (pv 8))) (pb_of ppd_int))) (pwd_or1 (Cmp.pt (c_le (ppd_var (pv 8)) (ppd_var (pv 1))))))))) (fun _ _ _ _ _ => (ppd_var (pv 8)))))) (pg_name (i := 7) nd rfl (by first | exact Or.inl rfl | exact Or.inr rfl)) (gok_name 7) (pssd_one (psd_for PassesOwn.never rfl (pid_seq (pp_of (pfd_lc rfl nd rfl (pid_strong (pid_range2 (by rfl) F.range (pad_cons (ppd_add (pb_of (ppd_var (pv 7))) (pb_of ppd_int)) (pad_cons (ppd_add (pb_of (ppd_var (pv 4))) (pb_of ppd_int)) pad_nil)))) (blkOk_by (own := [("tick", 8)]) (N := N_sure_change) (sc := defScope (top 41)) (by decide +kernel)) (fun _ _ _ _ _ => (pg_name (i := 8) nd rfl (by first | exact Or.inl rfl | exact Or.inr rfl))) (gok_name 8) (by decide) (fun _ _ _ _ _ => (ptsd_one (ptd_w (pwd_or (Cmp.pt (c_eq hr.units (pb_of (ppd_var (pv 8))) (pb_of (ppd_var (pv 4))))) (pwd_or1 (Cmp.pt (c_gt (ppd_var (pv 8)) (ppd_var (pv 2))))))))) (fun _ _ _ _ _ => (ppd_var (pv 8)))))) (pg_name (i := 9) nd rfl (by first | exact Or.inl rfl | exact Or.inr rfl)) (gok_name 9) (pssd_one (psd_if (ptd_w (pwd_and (Cmp.pt (c_eq hr.units (pb_of (ppd_callK k_parts_around rfl hr (by omega) (by rfl) (pad_cons (ppd_var (pv 5)) (pad_cons (ppd_var (pv 6)) (pad_cons (ppd_var (pv 7)) (pad_cons (ppd_var (pv 9)) (pad_cons (ppd_var (pv 4)) pad_nil))))))) (pb_of (ppd_len (by rfl) F.len (pab_cons (pb_of (ppd_var (pv 5))) pab_nil))))) (pwd_and1 (ptd_val (ppd_callK k_fits_between rfl hr (by omega) (by rfl) (pad_cons (ppd_var (pv 3)) (pad_cons (ppd_var (pv 7)) (pad_cons (ppd_var (pv 9)) pad_nil)))))))) (pssd_one (psd_ret ppd_bl)) pssd_nil)))))
      (pssd_one (psd_ret ppd_bl))))))))
abbrev N_law_of : List Str := ["_law_tin", "_law_goods_so"]
theorem sc_law_of : FnScope N_law_of ["_law_tin", "_law_goods_so"] (defScope (top 46)) := ⟨rfl, rfl, rfl, by decide +kernel, rfl, by decide +kernel, by decide +kernel⟩
theorem d_law_of {P : Program} {w : World} {K : PySem.W.Frag} {mg : Str → Option Value} {base : Heap} {sp sp_law_take : SpD} {k : Nat} (F : Fr0 K mg) (D : Dfn K mg "_law_of" 46 ["_law_tin", "_law_goods_so"]) {j_law_take : Nat} (k_law_take : Kn P w K mg base "_law_take" j_law_take ["_law_tin", "_law_below_so"] sp_law_take) (l_law_take : j_law_take ≤ k)
    (hs : ∀ ds c Q, ds.length = 2 → sp ds c Q → t_law_of sp_law_take (startR N_law_of ds) c (fun _ c' => Q .non c') Q) : Kn P w K mg base "_law_of" (k + 1) ["_law_tin", "_law_goods_so"] sp :=
  have nd := sc_law_of.nd
  knD D sc_law_of (t_law_of sp_law_take) hs fun f cdv A outer s H E τ G c hr =>
    (pssd_one (psd_ret (ppd_ix (pb_of (ppd_var (pv 1))) (ppd_callK k_law_take rfl hr (by omega) (by rfl) (pad_cons (ppd_var (pv 0)) (pad_cons (ppd_len (by rfl) F.len (pab_cons (pb_of (ppd_var (pv 1))) pab_nil)) pad_nil))))))
abbrev N_law_lists : List Str := ["_law_matter", "_law_bit"]
theorem sc_law_lists : FnScope N_law_lists ["_law_matter"] (defScope (top 47)) := ⟨rfl, rfl, rfl, by decide +kernel, rfl, by decide +kernel, by decide +kernel⟩
theorem d_law_lists {P : Program} {w : World} {K : PySem.W.Frag} {mg : Str → Option Value} {base : Heap} {sp sp_law_lists : SpD} {k : Nat} (F : Fr0 K mg) (D : Dfn K mg "_law_lists" 47 ["_law_matter"]) {j_law_lists : Nat} (k_law_lists : Kn P w K mg base "_law_lists" j_law_lists ["_law_matter"] sp_law_lists) (l_law_lists : j_law_lists ≤ k)
    (hs : ∀ ds c Q, ds.length = 1 → sp ds c Q → t_law_lists sp_law_lists (startR N_law_lists ds) c (fun _ c' => Q .non c') Q) : Kn P w K mg base "_law_lists" (k + 1) ["_law_matter"] sp :=
  have nd := sc_law_lists.nd
  knD D sc_law_lists (t_law_lists sp_law_lists) hs fun f cdv A outer s H E τ G c hr =>
    (pssd_one (psd_ret (ppd_if (ptd_val (ppd_isi2 (by decide) (by decide) (by rfl) F.isinstance (ppd_var (pv 0)) (pe_tyn (n := "list") (by decide +kernel) (by rfl) F.list) (pe_tyn (n := "tuple") (by decide +kernel) (by rfl) F.tuple) (q := _))) (pp_of (pfd_lc rfl nd rfl (pid_strong (pid_seq (ppd_var (pv 0)))) (blkOk_by (own := [("_law_bit", 1)]) (N := N_law_lists) (sc := defScope (top 47)) (by decide +kernel)) (fun _ _ _ _ _ => (pg_name (i := 1) nd rfl (by first | exact Or.inl rfl | exact Or.inr rfl))) (gok_name 1) (by decide) (fun _ _ _ _ _ => ptsd_nil) (fun _ _ _ _ _ => (ppd_callK k_law_lists rfl hr (by omega) (by rfl) (pad_cons (ppd_var (pv 1)) pad_nil))))) (ppd_var (pv 0)))))
abbrev N_law_same : List Str := ["_law_got", "_law_due", "_law_mine", "_law_its"]
theorem sc_law_same : FnScope N_law_same ["_law_got", "_law_due"] (defScope (top 48)) := ⟨rfl, rfl, rfl, by decide +kernel, rfl, by decide +kernel, by decide +kernel⟩
theorem d_law_same {P : Program} {w : World} {K : PySem.W.Frag} {mg : Str → Option Value} {base : Heap} {sp sp_law_same : SpD} {k : Nat} (F : Fr0 K mg) (D : Dfn K mg "_law_same" 48 ["_law_got", "_law_due"]) {j_law_same : Nat} (k_law_same : Kn P w K mg base "_law_same" j_law_same ["_law_got", "_law_due"] sp_law_same) (l_law_same : j_law_same ≤ k)
    (hs : ∀ ds c Q, ds.length = 2 → sp ds c Q → t_law_same sp_law_same (startR N_law_same ds) c (fun _ c' => Q .non c') Q) : Kn P w K mg base "_law_same" (k + 1) ["_law_got", "_law_due"] sp :=
  have nd := sc_law_same.nd
  knD D sc_law_same (t_law_same sp_law_same) hs fun f cdv A outer s H E τ G c hr =>
    (pssd_cons (psd_if (ptd_val (ppd_isi2 (by decide) (by decide) (by rfl) F.isinstance (ppd_var (pv 1)) (pe_tyn (n := "list") (by decide +kernel) (by rfl) F.list) (pe_tyn (n := "tuple") (by decide +kernel) (by rfl) F.tuple) (q := _))) (pssd_cons (psd_if (ptd_w (pwd_or (Cmp.pt (c_ne hr.units (pb_of (ppd_isi (q := ⟨0, 0, 0, 0⟩) (by decide) (by rfl) F.isinstance (ppd_var (pv 0)) (pe_tyn (n := "list") (by decide +kernel) (by rfl) F.list))) (pb_of (ppd_isi (q := ⟨0, 0, 0, 0⟩) (by decide) (by rfl) F.isinstance (ppd_var (pv 1)) (pe_tyn (n := "list") (by decide +kernel) (by rfl) F.list))))) (pwd_or1 (Cmp.pt (c_ne hr.units (pb_of (ppd_isi (q := ⟨0, 0, 0, 0⟩) (by decide) (by rfl) F.isinstance (ppd_var (pv 0)) (pe_tyn (n := "tuple") (by decide +kernel) (by rfl) F.tuple))) (pb_of (ppd_isi (q := ⟨0, 0, 0, 0⟩) (by decide) (by rfl) F.isinstance (ppd_var (pv 1)) (pe_tyn (n := "tuple") (by decide +kernel) (by rfl) F.tuple)))))))) (pssd_one (psd_ret ppd_bl)) pssd_nil)
      (pssd_one (psd_ret (ppd_and (Cmp.pp (c_eq hr.units (pb_of (ppd_len (by rfl) F.len (pab_cons (pb_of (ppd_var (pv 0))) pab_nil))) (pb_of (ppd_len (by rfl) F.len (pab_cons (pb_of (ppd_var (pv 1))) pab_nil))))) (ppd_one (ppd_all rfl (by rfl) F.all (pad_cons (pp_of (pfd_lc rfl nd rfl (pid_strong (pid_zip (by rfl) F.zip (pad_cons (ppd_var (pv 0)) (pad_cons (ppd_var (pv 1)) pad_nil)))) (blkOk_by (own := [("_law_mine", 2), ("_law_its", 3)]) (N := N_law_same) (sc := defScope (top 48)) (by decide +kernel)) (fun _ _ _ _ _ => (pg_tup rfl (pgs_cons (pg_name (i := 2) nd rfl (by first | exact Or.inl rfl | exact Or.inr rfl)) (pgs_cons (pg_name (i := 3) nd rfl (by first | exact Or.inl rfl | exact Or.inr rfl)) pgs_nil)))) (gok_tup (gsok_cons (gok_name 2) (gsok_cons (gok_name 3) gsok_nil))) (by decide) (fun _ _ _ _ _ => ptsd_nil) (fun _ _ _ _ _ => (ppd_callK k_law_same rfl hr (by omega) (by rfl) (pad_cons (ppd_var (pv 2)) (pad_cons (ppd_var (pv 3)) pad_nil)))))) pad_nil))))))) pssd_nil)
      (pssd_cons (psd_if (ptd_w (pwd_or (ptd_isN (ppd_var (pv 1))) (pwd_or1 (ptd_val (ppd_isi2 (by decide) (by decide) (by rfl) F.isinstance (ppd_var (pv 1)) (pe_tyn (n := "bool") (by decide +kernel) (by rfl) F.bool) (pe_tyn (n := "str") (by decide +kernel) (by rfl) F.str) (q := _)))))) (pssd_one (psd_ret (ppd_and (Cmp.pp (c_eq hr.units (pb_of (ppd_var (pv 0))) (pb_of (ppd_var (pv 1))))) (ppd_and (Cmp.pp (c_eq hr.units (pb_of (ppd_isi (q := ⟨0, 0, 0, 0⟩) (by decide) (by rfl) F.isinstance (ppd_var (pv 0)) (pe_tyn (n := "bool") (by decide +kernel) (by rfl) F.bool))) (pb_of (ppd_isi (q := ⟨0, 0, 0, 0⟩) (by decide) (by rfl) F.isinstance (ppd_var (pv 1)) (pe_tyn (n := "bool") (by decide +kernel) (by rfl) F.bool))))) (ppd_one (Cmp.pp (c_eq hr.units (pb_of (ppd_isN (ppd_var (pv 0)))) (pb_of (ppd_isN (ppd_var (pv 1))))))))))) pssd_nil)
      (pssd_one (psd_ret (ppd_and (ppd_isi (q := ⟨0, 0, 0, 0⟩) (by decide) (by rfl) F.isinstance (ppd_var (pv 0)) (pe_tyn (n := "int") (by decide +kernel) (by rfl) F.int)) (ppd_and (ppd_not (ppd_isi (q := ⟨0, 0, 0, 0⟩) (by decide) (by rfl) F.isinstance (ppd_var (pv 0)) (pe_tyn (n := "bool") (by decide +kernel) (by rfl) F.bool))) (ppd_one (Cmp.pp (c_eq hr.units (pb_of (ppd_var (pv 0))) (pb_of (ppd_var (pv 1))))))))))))
abbrev N_law_gcd : List Str := ["_law_one_so", "_law_two_so"]
theorem sc_law_gcd : FnScope N_law_gcd ["_law_one_so", "_law_two_so"] (defScope (top 49)) := ⟨rfl, rfl, rfl, by decide +kernel, rfl, by decide +kernel, by decide +kernel⟩
theorem d_law_gcd {P : Program} {w : World} {K : PySem.W.Frag} {mg : Str → Option Value} {base : Heap} {sp : SpD} {k : Nat} (F : Fr0 K mg) (D : Dfn K mg "_law_gcd" 49 ["_law_one_so", "_law_two_so"])
    (hs : ∀ ds c Q, ds.length = 2 → sp ds c Q → t_law_gcd (startR N_law_gcd ds) c (fun _ c' => Q .non c') Q) : Kn P w K mg base "_law_gcd" (k + 1) ["_law_one_so", "_law_two_so"] sp :=
  have nd := sc_law_gcd.nd
  knD D sc_law_gcd (t_law_gcd) hs fun f cdv A outer s H E τ G c hr =>
    (pssd_cons (psd_while PassesOwn.never (Cmp.pt (c_ne hr.units (pb_of (ppd_var (pv 1))) (pb_of ppd_int))) (pssd_one (psd_par (k1 := .va) (k2 := .va) (i := 0) (j := 1) rfl nd rfl rfl (by decide) rfl rfl (ppd_var (pv 1)) (ppd_mod (ppd_intc (by rfl) F.int (pad_cons (ppd_var (pv 0)) pad_nil)) (ppd_var (pv 1))) (by rfl))))
      (pssd_one (psd_ret (ppd_abs (by rfl) F.abs (pad_cons (ppd_var (pv 0)) pad_nil)))))
abbrev N_law_fr : List Str := ["_law_top_so", "_law_base_so", "_law_deep_so"]
theorem sc_law_fr : FnScope N_law_fr ["_law_top_so", "_law_base_so"] (defScope (top 50)) := ⟨rfl, rfl, rfl, by decide +kernel, rfl, by decide +kernel, by decide +kernel⟩
theorem d_law_fr {P : Program} {w : World} {K : PySem.W.Frag} {mg : Str → Option Value} {base : Heap} {sp sp_law_gcd : SpD} {k : Nat} (F : Fr0 K mg) (D : Dfn K mg "_law_fr" 50 ["_law_top_so", "_law_base_so"]) {j_law_gcd : Nat} (k_law_gcd : Kn P w K mg base "_law_gcd" j_law_gcd ["_law_one_so", "_law_two_so"] sp_law_gcd) (l_law_gcd : j_law_gcd ≤ k)
    (hs : ∀ ds c Q, ds.length = 2 → sp ds c Q → t_law_fr sp_law_gcd (startR N_law_fr ds) c (fun _ c' => Q .non c') Q) : Kn P w K mg base "_law_fr" (k + 1) ["_law_top_so", "_law_base_so"] sp :=
  have nd := sc_law_fr.nd
  knD D sc_law_fr (t_law_fr sp_law_gcd) hs fun f cdv A outer s H E τ G c hr =>
    (pssd_cons (psd_set (k := .va) (i := 2) nd rfl (by first | exact Or.inl rfl | exact Or.inr rfl) (ppd_callK k_law_gcd rfl hr (by omega) (by rfl) (pad_cons (ppd_var (pv 0)) (pad_cons (ppd_var (pv 1)) pad_nil))))
      (pssd_one (psd_ret (ppd_tup (pad_cons (ppd_fdiv (ppd_var (pv 0)) (ppd_var (pv 2))) (pad_cons (ppd_fdiv (ppd_var (pv 1)) (ppd_var (pv 2))) pad_nil))))))
abbrev N_law_sum : List Str := ["_law_one_so", "_law_two_so"]
theorem sc_law_sum : FnScope N_law_sum ["_law_one_so", "_law_two_so"] (defScope (top 51)) := ⟨rfl, rfl, rfl, by decide +kernel, rfl, by decide +kernel, by decide +kernel⟩
theorem d_law_sum {P : Program} {w : World} {K : PySem.W.Frag} {mg : Str → Option Value} {base : Heap} {sp sp_law_fr : SpD} {k : Nat} (F : Fr0 K mg) (D : Dfn K mg "_law_sum" 51 ["_law_one_so", "_law_two_so"]) {j_law_fr : Nat} (k_law_fr : Kn P w K mg base "_law_fr" j_law_fr ["_law_top_so", "_law_base_so"] sp_law_fr) (l_law_fr : j_law_fr ≤ k)
    (hs : ∀ ds c Q, ds.length = 2 → sp ds c Q → t_law_sum sp_law_fr (startR N_law_sum ds) c (fun _ c' => Q .non c') Q) : Kn P w K mg base "_law_sum" (k + 1) ["_law_one_so", "_law_two_so"] sp :=
  have nd := sc_law_sum.nd
  knD D sc_law_sum (t_law_sum sp_law_fr) hs fun f cdv A outer s H E τ G c hr =>
    (pssd_one (psd_ret (ppd_callK k_law_fr rfl hr (by omega) (by rfl) (pad_cons (ppd_add (pb_of (ppd_mul (ppd_ix (pb_of (ppd_var (pv 0))) ppd_int) (ppd_ix (pb_of (ppd_var (pv 1))) ppd_int))) (pb_of (ppd_mul (ppd_ix (pb_of (ppd_var (pv 1))) ppd_int) (ppd_ix (pb_of (ppd_var (pv 0))) ppd_int)))) (pad_cons (ppd_mul (ppd_ix (pb_of (ppd_var (pv 0))) ppd_int) (ppd_ix (pb_of (ppd_var (pv 1))) ppd_int)) pad_nil)))))
abbrev N_law_less_by : List Str := ["_law_one_so", "_law_two_so"]
theorem sc_law_less_by : FnScope N_law_less_by ["_law_one_so", "_law_two_so"] (defScope (top 52)) := ⟨rfl, rfl, rfl, by decide +kernel, rfl, by decide +kernel, by decide +kernel⟩
theorem d_law_less_by {P : Program} {w : World} {K : PySem.W.Frag} {mg : Str → Option Value} {base : Heap} {sp sp_law_fr : SpD} {k : Nat} (F : Fr0 K mg) (D : Dfn K mg "_law_less_by" 52 ["_law_one_so", "_law_two_so"]) {j_law_fr : Nat} (k_law_fr : Kn P w K mg base "_law_fr" j_law_fr ["_law_top_so", "_law_base_so"] sp_law_fr) (l_law_fr : j_law_fr ≤ k)
    (hs : ∀ ds c Q, ds.length = 2 → sp ds c Q → t_law_less_by sp_law_fr (startR N_law_less_by ds) c (fun _ c' => Q .non c') Q) : Kn P w K mg base "_law_less_by" (k + 1) ["_law_one_so", "_law_two_so"] sp :=
  have nd := sc_law_less_by.nd
  knD D sc_law_less_by (t_law_less_by sp_law_fr) hs fun f cdv A outer s H E τ G c hr =>
    (pssd_one (psd_ret (ppd_callK k_law_fr rfl hr (by omega) (by rfl) (pad_cons (ppd_sub (ppd_mul (ppd_ix (pb_of (ppd_var (pv 0))) ppd_int) (ppd_ix (pb_of (ppd_var (pv 1))) ppd_int)) (ppd_mul (ppd_ix (pb_of (ppd_var (pv 1))) ppd_int) (ppd_ix (pb_of (ppd_var (pv 0))) ppd_int))) (pad_cons (ppd_mul (ppd_ix (pb_of (ppd_var (pv 0))) ppd_int) (ppd_ix (pb_of (ppd_var (pv 1))) ppd_int)) pad_nil)))))
abbrev N_law_mul : List Str := ["_law_one_so", "_law_two_so"]
theorem sc_law_mul : FnScope N_law_mul ["_law_one_so", "_law_two_so"] (defScope (top 53)) := ⟨rfl, rfl, rfl, by decide +kernel, rfl, by decide +kernel, by decide +kernel⟩
theorem d_law_mul {P : Program} {w : World} {K : PySem.W.Frag} {mg : Str → Option Value} {base : Heap} {sp sp_law_fr : SpD} {k : Nat} (F : Fr0 K mg) (D : Dfn K mg "_law_mul" 53 ["_law_one_so", "_law_two_so"]) {j_law_fr : Nat} (k_law_fr : Kn P w K mg base "_law_fr" j_law_fr ["_law_top_so", "_law_base_so"] sp_law_fr) (l_law_fr : j_law_fr ≤ k)
    (hs : ∀ ds c Q, ds.length = 2 → sp ds c Q → t_law_mul sp_law_fr (startR N_law_mul ds) c (fun _ c' => Q .non c') Q) : Kn P w K mg base "_law_mul" (k + 1) ["_law_one_so", "_law_two_so"] sp :=
  have nd := sc_law_mul.nd
  knD D sc_law_mul (t_law_mul sp_law_fr) hs fun f cdv A outer s H E τ G c hr =>
    (pssd_one (psd_ret (ppd_callK k_law_fr rfl hr (by omega) (by rfl) (pad_cons (ppd_mul (ppd_ix (pb_of (ppd_var (pv 0))) ppd_int) (ppd_ix (pb_of (ppd_var (pv 1))) ppd_int)) (pad_cons (ppd_mul (ppd_ix (pb_of (ppd_var (pv 0))) ppd_int) (ppd_ix (pb_of (ppd_var (pv 1))) ppd_int)) pad_nil)))))
abbrev N_law_dot : List Str := ["_law_one_so", "_law_two_so", "_law_found", "_law_near_so", "_law_far_so"]
theorem sc_law_dot : FnScope N_law_dot ["_law_one_so", "_law_two_so"] (defScope (top 54)) := ⟨rfl, rfl, rfl, by decide +kernel, rfl, by decide +kernel, by decide +kernel⟩
theorem d_law_dot {P : Program} {w : World} {K : PySem.W.Frag} {mg : Str → Option Value} {base : Heap} {sp sp_law_sum sp_law_mul : SpD} {k : Nat} (F : Fr0 K mg) (D : Dfn K mg "_law_dot" 54 ["_law_one_so", "_law_two_so"]) {j_law_sum : Nat} (k_law_sum : Kn P w K mg base "_law_sum" j_law_sum ["_law_one_so", "_law_two_so"] sp_law_sum) (l_law_sum : j_law_sum ≤ k) {j_law_mul : Nat} (k_law_mul : Kn P w K mg base "_law_mul" j_law_mul ["_law_one_so", "_law_two_so"] sp_law_mul) (l_law_mul : j_law_mul ≤ k)
    (hs : ∀ ds c Q, ds.length = 2 → sp ds c Q → t_law_dot sp_law_sum sp_law_mul (startR N_law_dot ds) c (fun _ c' => Q .non c') Q) : Kn P w K mg base "_law_dot" (k + 1) ["_law_one_so", "_law_two_so"] sp :=
  have nd := sc_law_dot.nd
  knD D sc_law_dot (t_law_dot sp_law_sum sp_law_mul) hs fun f cdv A outer s H E τ G c hr =>
    (pssd_cons (psd_set (k := .va) (i := 2) nd rfl (by first | exact Or.inl rfl | exact Or.inr rfl) (ppd_tup (pad_cons ppd_int (pad_cons ppd_int pad_nil))))
      (pssd_cons (psd_for PassesOwn.never rfl (pid_zip (by rfl) F.zip (pad_cons (ppd_var (pv 0)) (pad_cons (ppd_var (pv 1)) pad_nil))) (pg_tup rfl (pgs_cons (pg_name (i := 3) nd rfl (by first | exact Or.inl rfl | exact Or.inr rfl)) (pgs_cons (pg_name (i := 4) nd rfl (by first | exact Or.inl rfl | exact Or.inr rfl)) pgs_nil))) (gok_tup (gsok_cons (gok_name 3) (gsok_cons (gok_name 4) gsok_nil))) (pssd_one (psd_if (ptd_w (pwd_and (Cmp.pt (c_ne hr.units (pb_of (ppd_ix (pb_of (ppd_var (pv 3))) ppd_int)) (pb_of ppd_int))) (pwd_and1 (Cmp.pt (c_ne hr.units (pb_of (ppd_ix (pb_of (ppd_var (pv 4))) ppd_int)) (pb_of ppd_int)))))) (pssd_one (psd_set (k := .va) (i := 2) nd rfl (by first | exact Or.inl rfl | exact Or.inr rfl) (ppd_callK k_law_sum rfl hr (by omega) (by rfl) (pad_cons (ppd_var (pv 2)) (pad_cons (ppd_callK k_law_mul rfl hr (by omega) (by rfl) (pad_cons (ppd_var (pv 3)) (pad_cons (ppd_var (pv 4)) pad_nil))) pad_nil))))) pssd_nil)))
      (pssd_one (psd_ret (ppd_var (pv 2))))))
abbrev N_law_both_rows : List Str := ["_law_one_so", "_law_two_so", "_law_near_so", "_law_far_so"]
theorem sc_law_both_rows : FnScope N_law_both_rows ["_law_one_so", "_law_two_so"] (defScope (top 55)) := ⟨rfl, rfl, rfl, by decide +kernel, rfl, by decide +kernel, by decide +kernel⟩
theorem d_law_both_rows {P : Program} {w : World} {K : PySem.W.Frag} {mg : Str → Option Value} {base : Heap} {sp sp_law_sum : SpD} {k : Nat} (F : Fr0 K mg) (D : Dfn K mg "_law_both_rows" 55 ["_law_one_so", "_law_two_so"]) {j_law_sum : Nat} (k_law_sum : Kn P w K mg base "_law_sum" j_law_sum ["_law_one_so", "_law_two_so"] sp_law_sum) (l_law_sum : j_law_sum ≤ k)
    (hs : ∀ ds c Q, ds.length = 2 → sp ds c Q → t_law_both_rows sp_law_sum (startR N_law_both_rows ds) c (fun _ c' => Q .non c') Q) : Kn P w K mg base "_law_both_rows" (k + 1) ["_law_one_so", "_law_two_so"] sp :=
  have nd := sc_law_both_rows.nd
  knD D sc_law_both_rows (t_law_both_rows sp_law_sum) hs fun f cdv A outer s H E τ G c hr =>
    (pssd_one (psd_ret (ppd_tuple (by rfl) F.tuple (pab_cons (pb_of (pp_of (pfd_lc rfl nd rfl (pid_strong (pid_zip (by rfl) F.zip (pad_cons (ppd_var (pv 0)) (pad_cons (ppd_var (pv 1)) pad_nil)))) (blkOk_by (own := [("_law_near_so", 2), ("_law_far_so", 3)]) (N := N_law_both_rows) (sc := defScope (top 55)) (by decide +kernel)) (fun _ _ _ _ _ => (pg_tup rfl (pgs_cons (pg_name (i := 2) nd rfl (by first | exact Or.inl rfl | exact Or.inr rfl)) (pgs_cons (pg_name (i := 3) nd rfl (by first | exact Or.inl rfl | exact Or.inr rfl)) pgs_nil)))) (gok_tup (gsok_cons (gok_name 2) (gsok_cons (gok_name 3) gsok_nil))) (by decide) (fun _ _ _ _ _ => ptsd_nil) (fun _ _ _ _ _ => (ppd_callK k_law_sum rfl hr (by omega) (by rfl) (pad_cons (ppd_var (pv 2)) (pad_cons (ppd_var (pv 3)) pad_nil))))))) pab_nil))))
abbrev N_law_next : List Str := ["_law_table_so", "_law_row_so", "_law_own"]
theorem sc_law_next : FnScope N_law_next ["_law_table_so", "_law_row_so"] (defScope (top 56)) := ⟨rfl, rfl, rfl, by decide +kernel, rfl, by decide +kernel, by decide +kernel⟩
theorem d_law_next {P : Program} {w : World} {K : PySem.W.Frag} {mg : Str → Option Value} {base : Heap} {sp sp_law_dot : SpD} {k : Nat} (F : Fr0 K mg) (D : Dfn K mg "_law_next" 56 ["_law_table_so", "_law_row_so"]) {j_law_dot : Nat} (k_law_dot : Kn P w K mg base "_law_dot" j_law_dot ["_law_one_so", "_law_two_so"] sp_law_dot) (l_law_dot : j_law_dot ≤ k)
    (hs : ∀ ds c Q, ds.length = 2 → sp ds c Q → t_law_next sp_law_dot (startR N_law_next ds) c (fun _ c' => Q .non c') Q) : Kn P w K mg base "_law_next" (k + 1) ["_law_table_so", "_law_row_so"] sp :=
  have nd := sc_law_next.nd
  knD D sc_law_next (t_law_next sp_law_dot) hs fun f cdv A outer s H E τ G c hr =>
    (pssd_one (psd_ret (ppd_tuple (by rfl) F.tuple (pab_cons (pb_of (pp_of (pfd_lc rfl nd rfl (pid_strong (pid_seq (ppd_var (pv 0)))) (blkOk_by (own := [("_law_own", 2)]) (N := N_law_next) (sc := defScope (top 56)) (by decide +kernel)) (fun _ _ _ _ _ => (pg_name (i := 2) nd rfl (by first | exact Or.inl rfl | exact Or.inr rfl))) (gok_name 2) (by decide) (fun _ _ _ _ _ => ptsd_nil) (fun _ _ _ _ _ => (ppd_callK k_law_dot rfl hr (by omega) (by rfl) (pad_cons (ppd_var (pv 2)) (pad_cons (ppd_var (pv 1)) pad_nil))))))) pab_nil))))
abbrev N_law_steps : List Str := ["_law_rows_so", "_law_left_so", "_law_found", "_law_row_so", "_law_size_so", "_law_k", "_law_heads_so", "_law_j", "_law_own", "_law_head_so", "_law_bit"]
theorem sc_law_steps : FnScope N_law_steps ["_law_rows_so"] (defScope (top 57)) := ⟨rfl, rfl, rfl, by decide +kernel, rfl, by decide +kernel, by decide +kernel⟩
theorem d_law_steps {P : Program} {w : World} {K : PySem.W.Frag} {mg : Str → Option Value} {base : Heap} {sp sp_law_over_any sp_law_struck : SpD} {k : Nat} (F : Fr0 K mg) (D : Dfn K mg "_law_steps" 57 ["_law_rows_so"]) {j_law_over_any : Nat} (k_law_over_any : Kn P w K mg base "_law_over_any" j_law_over_any ["_law_one_so", "_law_two_so"] sp_law_over_any) (l_law_over_any : j_law_over_any ≤ k) {j_law_struck : Nat} (k_law_struck : Kn P w K mg base "_law_struck" j_law_struck ["_law_row_so", "_law_head_so", "_law_k"] sp_law_struck) (l_law_struck : j_law_struck ≤ k)
    (hs : ∀ ds c Q, ds.length = 1 → sp ds c Q → t_law_steps sp_law_over_any sp_law_struck (startR N_law_steps ds) c (fun _ c' => Q .non c') Q) : Kn P w K mg base "_law_steps" (k + 1) ["_law_rows_so"] sp :=
  have nd := sc_law_steps.nd
  knD D sc_law_steps (t_law_steps sp_law_over_any sp_law_struck) hs fun f cdv A outer s H E τ G c hr =>
    (pssd_cons (psd_par (k1 := .ow) (k2 := .va) (i := 1) (j := 2) rfl nd rfl rfl (by decide) rfl rfl (pfd_lc rfl nd rfl (pid_strong (pid_seq (ppd_var (pv 0)))) (blkOk_by (own := [("_law_row_so", 3)]) (N := N_law_steps) (sc := defScope (top 57)) (by decide +kernel)) (fun _ _ _ _ _ => (pg_name (i := 3) nd rfl (by first | exact Or.inl rfl | exact Or.inr rfl))) (gok_name 3) (by decide) (fun _ _ _ _ _ => ptsd_nil) (fun _ _ _ _ _ => (pp_of (pfd_list (by rfl) F.list (pab_cons (pb_of (ppd_var (pv 3))) pab_nil))))) (pp_of (pfd_lst pad_nil)) (by rfl))
      (pssd_cons (psd_set (k := .va) (i := 4) nd rfl (by first | exact Or.inl rfl | exact Or.inr rfl) (ppd_if (Cmp.pt (c_ne hr.units (pbd_own (pv 1)) (pb_of (pp_of (pfd_lst pad_nil))))) (ppd_len (by rfl) F.len (pab_cons (pb_of (ppd_ix (pbd_own (pv 1)) ppd_int)) pab_nil)) ppd_int))
      (pssd_cons (psd_for PassesOwn.never rfl (pid_range1 (by rfl) F.range (pad_cons (ppd_var (pv 4)) pad_nil)) (pg_name (i := 5) nd rfl (by first | exact Or.inl rfl | exact Or.inr rfl)) (gok_name 5) (pssd_cons (psd_setLc (k := .va) (i := 6) (by first | exact .inl rfl | exact .inr rfl) rfl nd rfl rfl (sw_true rfl rfl rfl (by decide +kernel)) rfl (pid_enum (by rfl) F.enumerate (pab_cons (pbd_own (pv 1)) pab_nil)) (blkOk_by (own := [("_law_j", 7), ("_law_row_so", 3)]) (N := N_law_steps) (sc := defScope (top 57)) (by decide +kernel)) (fun _ _ _ _ _ => (pg_tup rfl (pgs_cons (pg_name (i := 7) nd rfl (by first | exact Or.inl rfl | exact Or.inr rfl)) (pgs_cons (pg_name (i := 3) nd rfl (by first | exact Or.inl rfl | exact Or.inr rfl)) pgs_nil)))) (gok_tup (gsok_cons (gok_name 7) (gsok_cons (gok_name 3) gsok_nil))) (by decide) (fun _ _ _ _ _ => (ptsd_one (Cmp.pt (c_ne hr.units (pb_of (ppd_ix (pb_of (ppd_ix (pb_of (ppd_var (pv 3))) (ppd_var (pv 5)))) ppd_int)) (pb_of ppd_int))))) (fun _ _ _ _ _ => (ppd_var (pv 7))))
      (pssd_one (psd_if (Cmp.pt (c_ne hr.units (pb_of (ppd_var (pv 6))) (pb_of (pp_of (pfd_lst pad_nil))))) (pssd_cons (psd_pop (j := 8) nd rfl (by first | exact Or.inl rfl | exact Or.inr rfl) (pv 1) (ppd_ix (pb_of (ppd_var (pv 6))) ppd_int))
      (pssd_cons (psd_set (k := .va) (i := 9) nd rfl (by first | exact Or.inl rfl | exact Or.inr rfl) (pp_of (pfd_lc rfl nd rfl (pid_strong (pid_seq (ppd_var (pv 8)))) (blkOk_by (own := [("_law_bit", 10)]) (N := N_law_steps) (sc := defScope (top 57)) (by decide +kernel)) (fun _ _ _ _ _ => (pg_name (i := 10) nd rfl (by first | exact Or.inl rfl | exact Or.inr rfl))) (gok_name 10) (by decide) (fun _ _ _ _ _ => ptsd_nil) (fun _ _ _ _ _ => (ppd_callK k_law_over_any rfl hr (by omega) (by rfl) (pad_cons (ppd_var (pv 10)) (pad_cons (ppd_ix (pb_of (ppd_var (pv 8))) (ppd_var (pv 5))) pad_nil)))))))
      (pssd_cons (psd_setLc (k := .ow) (i := 1) (by first | exact .inl rfl | exact .inr rfl) rfl nd rfl rfl (sw_true rfl rfl rfl (by decide +kernel)) rfl (pid_listB (pbd_own (pv 1))) (blkOk_by (own := [("_law_row_so", 3)]) (N := N_law_steps) (sc := defScope (top 57)) (by decide +kernel)) (fun _ _ _ _ _ => (pg_name (i := 3) nd rfl (by first | exact Or.inl rfl | exact Or.inr rfl))) (gok_name 3) (by decide) (fun _ _ _ _ _ => ptsd_nil) (fun _ _ _ _ _ => (ppd_callK k_law_struck rfl hr (by omega) (by rfl) (pad_cons (ppd_var (pv 3)) (pad_cons (ppd_var (pv 9)) (pad_cons (ppd_var (pv 5)) pad_nil))))))
      (pssd_one (psd_set (k := .va) (i := 2) nd rfl (by first | exact Or.inl rfl | exact Or.inr rfl) (ppd_add (pb_of (pp_of (pfd_lc rfl nd rfl (pid_strong (pid_seq (ppd_var (pv 2)))) (blkOk_by (own := [("_law_row_so", 3)]) (N := N_law_steps) (sc := defScope (top 57)) (by decide +kernel)) (fun _ _ _ _ _ => (pg_name (i := 3) nd rfl (by first | exact Or.inl rfl | exact Or.inr rfl))) (gok_name 3) (by decide) (fun _ _ _ _ _ => ptsd_nil) (fun _ _ _ _ _ => (ppd_callK k_law_struck rfl hr (by omega) (by rfl) (pad_cons (ppd_var (pv 3)) (pad_cons (ppd_var (pv 9)) (pad_cons (ppd_var (pv 5)) pad_nil)))))))) (pb_of (pp_of (pfd_lst (pad_cons (ppd_var (pv 9)) pad_nil)))))))))) pssd_nil))))
      (pssd_one (psd_ret (ppd_tuple (by rfl) F.tuple (pab_cons (pb_of (pp_of (pfd_lc rfl nd rfl (pid_strong (pid_seq (ppd_var (pv 2)))) (blkOk_by (own := [("_law_row_so", 3)]) (N := N_law_steps) (sc := defScope (top 57)) (by decide +kernel)) (fun _ _ _ _ _ => (pg_name (i := 3) nd rfl (by first | exact Or.inl rfl | exact Or.inr rfl))) (gok_name 3) (by decide) (fun _ _ _ _ _ => ptsd_nil) (fun _ _ _ _ _ => (ppd_tuple (by rfl) F.tuple (pab_cons (pb_of (ppd_var (pv 3))) pab_nil)))))) pab_nil)))))))
abbrev N_law_over_any : List Str := ["_law_one_so", "_law_two_so"]
theorem sc_law_over_any : FnScope N_law_over_any ["_law_one_so", "_law_two_so"] (defScope (top 58)) := ⟨rfl, rfl, rfl, by decide +kernel, rfl, by decide +kernel, by decide +kernel⟩
theorem d_law_over_any {P : Program} {w : World} {K : PySem.W.Frag} {mg : Str → Option Value} {base : Heap} {sp sp_law_fr : SpD} {k : Nat} (F : Fr0 K mg) (D : Dfn K mg "_law_over_any" 58 ["_law_one_so", "_law_two_so"]) {j_law_fr : Nat} (k_law_fr : Kn P w K mg base "_law_fr" j_law_fr ["_law_top_so", "_law_base_so"] sp_law_fr) (l_law_fr : j_law_fr ≤ k)
    (hs : ∀ ds c Q, ds.length = 2 → sp ds c Q → t_law_over_any sp_law_fr (startR N_law_over_any ds) c (fun _ c' => Q .non c') Q) : Kn P w K mg base "_law_over_any" (k + 1) ["_law_one_so", "_law_two_so"] sp :=
  have nd := sc_law_over_any.nd
  knD D sc_law_over_any (t_law_over_any sp_law_fr) hs fun f cdv A outer s H E τ G c hr =>
    (pssd_one (psd_ret (ppd_callK k_law_fr rfl hr (by omega) (by rfl) (pad_cons (ppd_mul (ppd_mul (ppd_ix (pb_of (ppd_var (pv 0))) ppd_int) (ppd_ix (pb_of (ppd_var (pv 1))) ppd_int)) (ppd_if (Cmp.pt (c_gt (ppd_ix (pb_of (ppd_var (pv 1))) ppd_int) ppd_int)) ppd_int (ppd_neg ppd_int))) (pad_cons (ppd_mul (ppd_ix (pb_of (ppd_var (pv 0))) ppd_int) (ppd_abs (by rfl) F.abs (pad_cons (ppd_ix (pb_of (ppd_var (pv 1))) ppd_int) pad_nil))) pad_nil)))))
abbrev N_law_struck : List Str := ["_law_row_so", "_law_head_so", "_law_k", "_law_part_so", "_law_mine", "_law_its"]
theorem sc_law_struck : FnScope N_law_struck ["_law_row_so", "_law_head_so", "_law_k"] (defScope (top 59)) := ⟨rfl, rfl, rfl, by decide +kernel, rfl, by decide +kernel, by decide +kernel⟩
theorem d_law_struck {P : Program} {w : World} {K : PySem.W.Frag} {mg : Str → Option Value} {base : Heap} {sp sp_law_less_by sp_law_mul : SpD} {k : Nat} (F : Fr0 K mg) (D : Dfn K mg "_law_struck" 59 ["_law_row_so", "_law_head_so", "_law_k"]) {j_law_less_by : Nat} (k_law_less_by : Kn P w K mg base "_law_less_by" j_law_less_by ["_law_one_so", "_law_two_so"] sp_law_less_by) (l_law_less_by : j_law_less_by ≤ k) {j_law_mul : Nat} (k_law_mul : Kn P w K mg base "_law_mul" j_law_mul ["_law_one_so", "_law_two_so"] sp_law_mul) (l_law_mul : j_law_mul ≤ k)
    (hs : ∀ ds c Q, ds.length = 3 → sp ds c Q → t_law_struck sp_law_less_by sp_law_mul (startR N_law_struck ds) c (fun _ c' => Q .non c') Q) : Kn P w K mg base "_law_struck" (k + 1) ["_law_row_so", "_law_head_so", "_law_k"] sp :=
  have nd := sc_law_struck.nd
  knD D sc_law_struck (t_law_struck sp_law_less_by sp_law_mul) hs fun f cdv A outer s H E τ G c hr =>
    (pssd_cons (psd_set (k := .va) (i := 3) nd rfl (by first | exact Or.inl rfl | exact Or.inr rfl) (ppd_ix (pb_of (ppd_var (pv 0))) (ppd_var (pv 2))))
      (pssd_cons (psd_if (Cmp.pt (c_eq hr.units (pb_of (ppd_ix (pb_of (ppd_var (pv 3))) ppd_int)) (pb_of ppd_int))) (pssd_one (psd_ret (pp_of (pfd_list (by rfl) F.list (pab_cons (pb_of (ppd_var (pv 0))) pab_nil))))) pssd_nil)
      (pssd_one (psd_ret (pp_of (pfd_lc rfl nd rfl (pid_strong (pid_zip (by rfl) F.zip (pad_cons (ppd_var (pv 0)) (pad_cons (ppd_var (pv 1)) pad_nil)))) (blkOk_by (own := [("_law_mine", 4), ("_law_its", 5)]) (N := N_law_struck) (sc := defScope (top 59)) (by decide +kernel)) (fun _ _ _ _ _ => (pg_tup rfl (pgs_cons (pg_name (i := 4) nd rfl (by first | exact Or.inl rfl | exact Or.inr rfl)) (pgs_cons (pg_name (i := 5) nd rfl (by first | exact Or.inl rfl | exact Or.inr rfl)) pgs_nil)))) (gok_tup (gsok_cons (gok_name 4) (gsok_cons (gok_name 5) gsok_nil))) (by decide) (fun _ _ _ _ _ => ptsd_nil) (fun _ _ _ _ _ => (ppd_if (Cmp.pt (c_eq hr.units (pb_of (ppd_ix (pb_of (ppd_var (pv 5))) ppd_int)) (pb_of ppd_int))) (ppd_var (pv 4)) (ppd_callK k_law_less_by rfl hr (by omega) (by rfl) (pad_cons (ppd_var (pv 4)) (pad_cons (ppd_callK k_law_mul rfl hr (by omega) (by rfl) (pad_cons (ppd_var (pv 3)) (pad_cons (ppd_var (pv 5)) pad_nil))) pad_nil)))))))))))
abbrev N_law_rank : List Str := ["_law_rows_so"]
theorem sc_law_rank : FnScope N_law_rank ["_law_rows_so"] (defScope (top 60)) := ⟨rfl, rfl, rfl, by decide +kernel, rfl, by decide +kernel, by decide +kernel⟩
theorem d_law_rank {P : Program} {w : World} {K : PySem.W.Frag} {mg : Str → Option Value} {base : Heap} {sp sp_law_steps : SpD} {k : Nat} (F : Fr0 K mg) (D : Dfn K mg "_law_rank" 60 ["_law_rows_so"]) {j_law_steps : Nat} (k_law_steps : Kn P w K mg base "_law_steps" j_law_steps ["_law_rows_so"] sp_law_steps) (l_law_steps : j_law_steps ≤ k)
    (hs : ∀ ds c Q, ds.length = 1 → sp ds c Q → t_law_rank sp_law_steps (startR N_law_rank ds) c (fun _ c' => Q .non c') Q) : Kn P w K mg base "_law_rank" (k + 1) ["_law_rows_so"] sp :=
  have nd := sc_law_rank.nd
  knD D sc_law_rank (t_law_rank sp_law_steps) hs fun f cdv A outer s H E τ G c hr =>
    (pssd_one (psd_ret (ppd_len (by rfl) F.len (pab_cons (pb_of (ppd_callK k_law_steps rfl hr (by omega) (by rfl) (pad_cons (ppd_var (pv 0)) pad_nil))) pab_nil))))
abbrev N_law_idle : List Str := ["_law_size_so"]
theorem sc_law_idle : FnScope N_law_idle ["_law_size_so"] (defScope (top 61)) := ⟨rfl, rfl, rfl, by decide +kernel, rfl, by decide +kernel, by decide +kernel⟩
theorem d_law_idle {P : Program} {w : World} {K : PySem.W.Frag} {mg : Str → Option Value} {base : Heap} {sp : SpD} {k : Nat} (F : Fr0 K mg) (D : Dfn K mg "_law_idle" 61 ["_law_size_so"])
    (hs : ∀ ds c Q, ds.length = 1 → sp ds c Q → t_law_idle (startR N_law_idle ds) c (fun _ c' => Q .non c') Q) : Kn P w K mg base "_law_idle" (k + 1) ["_law_size_so"] sp :=
  have nd := sc_law_idle.nd
  knD D sc_law_idle (t_law_idle) hs fun f cdv A outer s H E τ G c hr =>
    (pssd_one (psd_ret (ppd_rep (ppd_tup (pad_cons (ppd_tup (pad_cons ppd_int (pad_cons ppd_int pad_nil))) pad_nil)) (ppd_var (pv 0)))))
abbrev N_law_subsets : List Str := ["_law_things_so", "_law_found", "_law_thing_so", "_law_own"]
theorem sc_law_subsets : FnScope N_law_subsets ["_law_things_so"] (defScope (top 62)) := ⟨rfl, rfl, rfl, by decide +kernel, rfl, by decide +kernel, by decide +kernel⟩
theorem d_law_subsets {P : Program} {w : World} {K : PySem.W.Frag} {mg : Str → Option Value} {base : Heap} {sp : SpD} {k : Nat} (F : Fr0 K mg) (D : Dfn K mg "_law_subsets" 62 ["_law_things_so"])
    (hs : ∀ ds c Q, ds.length = 1 → sp ds c Q → t_law_subsets (startR N_law_subsets ds) c (fun _ c' => Q .non c') Q) : Kn P w K mg base "_law_subsets" (k + 1) ["_law_things_so"] sp :=
  have nd := sc_law_subsets.nd
  knD D sc_law_subsets (t_law_subsets) hs fun f cdv A outer s H E τ G c hr =>
    (pssd_cons (psd_set (k := .va) (i := 1) nd rfl (by first | exact Or.inl rfl | exact Or.inr rfl) (pp_of (pfd_lst (pad_cons (ppd_tup pad_nil) pad_nil))))
      (pssd_cons (psd_for PassesOwn.never rfl (pid_seq (ppd_var (pv 0))) (pg_name (i := 2) nd rfl (by first | exact Or.inl rfl | exact Or.inr rfl)) (gok_name 2) (pssd_one (psd_set (k := .va) (i := 1) nd rfl (by first | exact Or.inl rfl | exact Or.inr rfl) (ppd_add (pb_of (ppd_var (pv 1))) (pb_of (pp_of (pfd_lc rfl nd rfl (pid_strong (pid_seq (ppd_var (pv 1)))) (blkOk_by (own := [("_law_own", 3)]) (N := N_law_subsets) (sc := defScope (top 62)) (by decide +kernel)) (fun _ _ _ _ _ => (pg_name (i := 3) nd rfl (by first | exact Or.inl rfl | exact Or.inr rfl))) (gok_name 3) (by decide) (fun _ _ _ _ _ => ptsd_nil) (fun _ _ _ _ _ => (ppd_add (pb_of (ppd_var (pv 3))) (pb_of (ppd_tup (pad_cons (ppd_var (pv 2)) pad_nil))))))))))))
      (pssd_one (psd_ret (ppd_var (pv 1))))))
abbrev N_law_small : List Str := ["_law_tin"]
theorem sc_law_small : FnScope N_law_small ["_law_tin"] (defScope (top 63)) := ⟨rfl, rfl, rfl, by decide +kernel, rfl, by decide +kernel, by decide +kernel⟩
theorem d_law_small {P : Program} {w : World} {K : PySem.W.Frag} {mg : Str → Option Value} {base : Heap} {sp sp_law_of : SpD} {k : Nat} (F : Fr0 K mg) (D : Dfn K mg "_law_small" 63 ["_law_tin"]) {j_law_of : Nat} (k_law_of : Kn P w K mg base "_law_of" j_law_of ["_law_tin", "_law_goods_so"] sp_law_of) (l_law_of : j_law_of ≤ k)
    (hs : ∀ ds c Q, ds.length = 1 → sp ds c Q → t_law_small sp_law_of (startR N_law_small ds) c (fun _ c' => Q .non c') Q) : Kn P w K mg base "_law_small" (k + 1) ["_law_tin"] sp :=
  have nd := sc_law_small.nd
  knD D sc_law_small (t_law_small sp_law_of) hs fun f cdv A outer s H E τ G c hr =>
    (pssd_one (psd_ret (ppd_callK k_law_of rfl hr (by omega) (by rfl) (pad_cons (ppd_var (pv 0)) (pad_cons (pp_of (pfd_lst (pad_cons (ppd_tup (pad_cons ppd_int (pad_cons ppd_int pad_nil))) (pad_cons (ppd_tup (pad_cons ppd_int (pad_cons ppd_int pad_nil))) (pad_cons (ppd_tup (pad_cons (ppd_neg ppd_int) (pad_cons ppd_int pad_nil))) (pad_cons (ppd_tup (pad_cons ppd_int (pad_cons ppd_int pad_nil))) (pad_cons (ppd_tup (pad_cons ppd_int (pad_cons ppd_int pad_nil))) (pad_cons (ppd_tup (pad_cons ppd_int (pad_cons ppd_int pad_nil))) (pad_cons (ppd_tup (pad_cons ppd_int (pad_cons ppd_int pad_nil))) (pad_cons (ppd_tup (pad_cons ppd_int (pad_cons ppd_int pad_nil))) (pad_cons (ppd_tup (pad_cons (ppd_neg ppd_int) (pad_cons ppd_int pad_nil))) pad_nil))))))))))) pad_nil)))))
abbrev N_law_row : List Str := ["_law_tin", "_law_size_so", "_law_k"]
theorem sc_law_row : FnScope N_law_row ["_law_tin", "_law_size_so"] (defScope (top 64)) := ⟨rfl, rfl, rfl, by decide +kernel, rfl, by decide +kernel, by decide +kernel⟩
theorem d_law_row {P : Program} {w : World} {K : PySem.W.Frag} {mg : Str → Option Value} {base : Heap} {sp sp_law_small : SpD} {k : Nat} (F : Fr0 K mg) (D : Dfn K mg "_law_row" 64 ["_law_tin", "_law_size_so"]) {j_law_small : Nat} (k_law_small : Kn P w K mg base "_law_small" j_law_small ["_law_tin"] sp_law_small) (l_law_small : j_law_small ≤ k)
    (hs : ∀ ds c Q, ds.length = 2 → sp ds c Q → t_law_row sp_law_small (startR N_law_row ds) c (fun _ c' => Q .non c') Q) : Kn P w K mg base "_law_row" (k + 1) ["_law_tin", "_law_size_so"] sp :=
  have nd := sc_law_row.nd
  knD D sc_law_row (t_law_row sp_law_small) hs fun f cdv A outer s H E τ G c hr =>
    (pssd_one (psd_ret (ppd_tuple (by rfl) F.tuple (pab_cons (pb_of (pp_of (pfd_lc rfl nd rfl (pid_strong (pid_range1 (by rfl) F.range (pad_cons (ppd_var (pv 1)) pad_nil))) (blkOk_by (own := [("_law_k", 2)]) (N := N_law_row) (sc := defScope (top 64)) (by decide +kernel)) (fun _ _ _ _ _ => (pg_name (i := 2) nd rfl (by first | exact Or.inl rfl | exact Or.inr rfl))) (gok_name 2) (by decide) (fun _ _ _ _ _ => ptsd_nil) (fun _ _ _ _ _ => (ppd_callK k_law_small rfl hr (by omega) (by rfl) (pad_cons (ppd_var (pv 0)) pad_nil)))))) pab_nil))))
abbrev N_law_on : List Str := ["_law_machine_so", "_law_cells_so", "_law_inputs_so"]
theorem sc_law_on : FnScope N_law_on ["_law_machine_so", "_law_cells_so", "_law_inputs_so"] (defScope (top 65)) := ⟨rfl, rfl, rfl, by decide +kernel, rfl, by decide +kernel, by decide +kernel⟩
theorem d_law_on {P : Program} {w : World} {K : PySem.W.Frag} {mg : Str → Option Value} {base : Heap} {sp sp_law_both_rows sp_law_next : SpD} {k : Nat} (F : Fr0 K mg) (D : Dfn K mg "_law_on" 65 ["_law_machine_so", "_law_cells_so", "_law_inputs_so"]) {j_law_both_rows : Nat} (k_law_both_rows : Kn P w K mg base "_law_both_rows" j_law_both_rows ["_law_one_so", "_law_two_so"] sp_law_both_rows) (l_law_both_rows : j_law_both_rows ≤ k) {j_law_next : Nat} (k_law_next : Kn P w K mg base "_law_next" j_law_next ["_law_table_so", "_law_row_so"] sp_law_next) (l_law_next : j_law_next ≤ k)
    (hs : ∀ ds c Q, ds.length = 3 → sp ds c Q → t_law_on sp_law_both_rows sp_law_next (startR N_law_on ds) c (fun _ c' => Q .non c') Q) : Kn P w K mg base "_law_on" (k + 1) ["_law_machine_so", "_law_cells_so", "_law_inputs_so"] sp :=
  have nd := sc_law_on.nd
  knD D sc_law_on (t_law_on sp_law_both_rows sp_law_next) hs fun f cdv A outer s H E τ G c hr =>
    (pssd_one (psd_ret (ppd_callK k_law_both_rows rfl hr (by omega) (by rfl) (pad_cons (ppd_callK k_law_next rfl hr (by omega) (by rfl) (pad_cons (ppd_ix (pb_of (ppd_var (pv 0))) ppd_int) (pad_cons (ppd_var (pv 1)) pad_nil))) (pad_cons (ppd_callK k_law_next rfl hr (by omega) (by rfl) (pad_cons (ppd_ix (pb_of (ppd_var (pv 0))) ppd_int) (pad_cons (ppd_var (pv 2)) pad_nil))) pad_nil)))))
abbrev N_law_goes : List Str := ["_law_columns_so", "_law_nexts_so", "_law_wide_so", "_law_column_so", "_law_next_so"]
theorem sc_law_goes : FnScope N_law_goes ["_law_columns_so", "_law_nexts_so"] (defScope (top 66)) := ⟨rfl, rfl, rfl, by decide +kernel, rfl, by decide +kernel, by decide +kernel⟩
theorem d_law_goes {P : Program} {w : World} {K : PySem.W.Frag} {mg : Str → Option Value} {base : Heap} {sp sp_law_rank : SpD} {k : Nat} (F : Fr0 K mg) (D : Dfn K mg "_law_goes" 66 ["_law_columns_so", "_law_nexts_so"]) {j_law_rank : Nat} (k_law_rank : Kn P w K mg base "_law_rank" j_law_rank ["_law_rows_so"] sp_law_rank) (l_law_rank : j_law_rank ≤ k)
    (hs : ∀ ds c Q, ds.length = 2 → sp ds c Q → t_law_goes sp_law_rank (startR N_law_goes ds) c (fun _ c' => Q .non c') Q) : Kn P w K mg base "_law_goes" (k + 1) ["_law_columns_so", "_law_nexts_so"] sp :=
  have nd := sc_law_goes.nd
  knD D sc_law_goes (t_law_goes sp_law_rank) hs fun f cdv A outer s H E τ G c hr =>
    (pssd_cons (psd_setLc (k := .va) (i := 2) (by first | exact .inl rfl | exact .inr rfl) rfl nd rfl rfl (sw_true rfl rfl rfl (by decide +kernel)) rfl (pid_strong (pid_zip (by rfl) F.zip (pad_cons (ppd_var (pv 0)) (pad_cons (ppd_var (pv 1)) pad_nil)))) (blkOk_by (own := [("_law_column_so", 3), ("_law_next_so", 4)]) (N := N_law_goes) (sc := defScope (top 66)) (by decide +kernel)) (fun _ _ _ _ _ => (pg_tup rfl (pgs_cons (pg_name (i := 3) nd rfl (by first | exact Or.inl rfl | exact Or.inr rfl)) (pgs_cons (pg_name (i := 4) nd rfl (by first | exact Or.inl rfl | exact Or.inr rfl)) pgs_nil)))) (gok_tup (gsok_cons (gok_name 3) (gsok_cons (gok_name 4) gsok_nil))) (by decide) (fun _ _ _ _ _ => ptsd_nil) (fun _ _ _ _ _ => (ppd_add (pb_of (ppd_var (pv 3))) (pb_of (ppd_var (pv 4))))))
      (pssd_one (psd_ret (ppd_if (Cmp.pt (c_ne hr.units (pb_of (ppd_var (pv 0))) (pb_of (pp_of (pfd_lst pad_nil))))) (Cmp.pp (c_eq hr.units (pb_of (ppd_callK k_law_rank rfl hr (by omega) (by rfl) (pad_cons (ppd_var (pv 2)) pad_nil))) (pb_of (ppd_callK k_law_rank rfl hr (by omega) (by rfl) (pad_cons (ppd_var (pv 0)) pad_nil))))) ppd_bl))))
abbrev N_law_whole : List Str := ["_law_tin"]
theorem sc_law_whole : FnScope N_law_whole ["_law_tin"] (defScope (top 67)) := ⟨rfl, rfl, rfl, by decide +kernel, rfl, by decide +kernel, by decide +kernel⟩
theorem d_law_whole {P : Program} {w : World} {K : PySem.W.Frag} {mg : Str → Option Value} {base : Heap} {sp sp_law_of : SpD} {k : Nat} (F : Fr0 K mg) (D : Dfn K mg "_law_whole" 67 ["_law_tin"]) {j_law_of : Nat} (k_law_of : Kn P w K mg base "_law_of" j_law_of ["_law_tin", "_law_goods_so"] sp_law_of) (l_law_of : j_law_of ≤ k)
    (hs : ∀ ds c Q, ds.length = 1 → sp ds c Q → t_law_whole sp_law_of (startR N_law_whole ds) c (fun _ c' => Q .non c') Q) : Kn P w K mg base "_law_whole" (k + 1) ["_law_tin"] sp :=
  have nd := sc_law_whole.nd
  knD D sc_law_whole (t_law_whole sp_law_of) hs fun f cdv A outer s H E τ G c hr =>
    (pssd_one (psd_ret (ppd_callK k_law_of rfl hr (by omega) (by rfl) (pad_cons (ppd_var (pv 0)) (pad_cons (pp_of (pfd_lst (pad_cons (ppd_tup (pad_cons ppd_int (pad_cons ppd_int pad_nil))) (pad_cons (ppd_tup (pad_cons ppd_int (pad_cons ppd_int pad_nil))) (pad_cons (ppd_tup (pad_cons (ppd_neg ppd_int) (pad_cons ppd_int pad_nil))) (pad_cons (ppd_tup (pad_cons ppd_int (pad_cons ppd_int pad_nil))) (pad_cons (ppd_tup (pad_cons ppd_int (pad_cons ppd_int pad_nil))) (pad_cons (ppd_tup (pad_cons ppd_int (pad_cons ppd_int pad_nil))) pad_nil)))))))) pad_nil)))))
abbrev N_law_given : List Str := ["_law_tin", "_law_m_so", "_law_ticks_so", "_law_k", "_law_j"]
theorem sc_law_given : FnScope N_law_given ["_law_tin", "_law_m_so", "_law_ticks_so"] (defScope (top 69)) := ⟨rfl, rfl, rfl, by decide +kernel, rfl, by decide +kernel, by decide +kernel⟩
theorem d_law_given {P : Program} {w : World} {K : PySem.W.Frag} {mg : Str → Option Value} {base : Heap} {sp sp_law_take sp_law_idle sp_law_whole : SpD} {k : Nat} (F : Fr0 K mg) (D : Dfn K mg "_law_given" 69 ["_law_tin", "_law_m_so", "_law_ticks_so"]) {j_law_take : Nat} (k_law_take : Kn P w K mg base "_law_take" j_law_take ["_law_tin", "_law_below_so"] sp_law_take) (l_law_take : j_law_take ≤ k) {j_law_idle : Nat} (k_law_idle : Kn P w K mg base "_law_idle" j_law_idle ["_law_size_so"] sp_law_idle) (l_law_idle : j_law_idle ≤ k) {j_law_whole : Nat} (k_law_whole : Kn P w K mg base "_law_whole" j_law_whole ["_law_tin"] sp_law_whole) (l_law_whole : j_law_whole ≤ k)
    (hs : ∀ ds c Q, ds.length = 3 → sp ds c Q → t_law_given sp_law_take sp_law_idle sp_law_whole (startR N_law_given ds) c (fun _ c' => Q .non c') Q) : Kn P w K mg base "_law_given" (k + 1) ["_law_tin", "_law_m_so", "_law_ticks_so"] sp :=
  have nd := sc_law_given.nd
  knD D sc_law_given (t_law_given sp_law_take sp_law_idle sp_law_whole) hs fun f cdv A outer s H E τ G c hr =>
    (pssd_cons (psd_if (Cmp.pt (c_eq hr.units (pb_of (ppd_callK k_law_take rfl hr (by omega) (by rfl) (pad_cons (ppd_var (pv 0)) (pad_cons ppd_int pad_nil)))) (pb_of ppd_int))) (pssd_one (psd_ret (ppd_rep (ppd_tup (pad_cons (ppd_callK k_law_idle rfl hr (by omega) (by rfl) (pad_cons (ppd_var (pv 1)) pad_nil)) pad_nil)) (ppd_var (pv 2))))) pssd_nil)
      (pssd_one (psd_ret (ppd_tuple (by rfl) F.tuple (pab_cons (pb_of (pp_of (pfd_lc rfl nd rfl (pid_strong (pid_range1 (by rfl) F.range (pad_cons (ppd_var (pv 2)) pad_nil))) (blkOk_by (own := [("_law_k", 3)]) (N := N_law_given) (sc := defScope (top 69)) (by decide +kernel)) (fun _ _ _ _ _ => (pg_name (i := 3) nd rfl (by first | exact Or.inl rfl | exact Or.inr rfl))) (gok_name 3) (by decide) (fun _ _ _ _ _ => ptsd_nil) (fun _ _ _ _ _ => (ppd_tuple (by rfl) F.tuple (pab_cons (pb_of (pp_of (pfd_lc rfl nd rfl (pid_strong (pid_range1 (by rfl) F.range (pad_cons (ppd_var (pv 1)) pad_nil))) (blkOk_by (own := [("_law_j", 4)]) (by rfl)) (fun _ _ _ _ _ => (pg_name (i := 4) nd rfl (by first | exact Or.inl rfl | exact Or.inr rfl))) (gok_name 4) (by decide) (fun _ _ _ _ _ => ptsd_nil) (fun _ _ _ _ _ => (ppd_callK k_law_whole rfl hr (by omega) (by rfl) (pad_cons (ppd_var (pv 0)) pad_nil)))))) pab_nil)))))) pab_nil)))))
abbrev N_law_ticks_of : List Str := ["_law_piece_so", "_law_line_so", "_law_given_so", "_law_cells_so", "_law_inputs_so"]
theorem sc_law_ticks_of : FnScope N_law_ticks_of ["_law_piece_so"] (defScope (top 70)) := ⟨rfl, rfl, rfl, by decide +kernel, rfl, by decide +kernel, by decide +kernel⟩
theorem d_law_ticks_of {P : Program} {w : World} {K : PySem.W.Frag} {mg : Str → Option Value} {base : Heap} {sp : SpD} {k : Nat} (F : Fr0 K mg) (D : Dfn K mg "_law_ticks_of" 70 ["_law_piece_so"])
    (hs : ∀ ds c Q, ds.length = 1 → sp ds c Q → t_law_ticks_of (startR N_law_ticks_of ds) c (fun _ c' => Q .non c') Q) : Kn P w K mg base "_law_ticks_of" (k + 1) ["_law_piece_so"] sp :=
  have nd := sc_law_ticks_of.nd
  knD D sc_law_ticks_of (t_law_ticks_of) hs fun f cdv A outer s H E τ G c hr =>
    (pssd_cons (psd_asg (ppd_var (pv 0)) (pg_tup rfl (pgs_cons (pg_name (i := 1) nd rfl (by first | exact Or.inl rfl | exact Or.inr rfl)) (pgs_cons (pg_name (i := 2) nd rfl (by first | exact Or.inl rfl | exact Or.inr rfl)) pgs_nil))) (gok_tup (gsok_cons (gok_name 1) (gsok_cons (gok_name 2) gsok_nil))))
      (pssd_one (psd_ret (ppd_tup (pad_cons (pp_of (pfd_lc rfl nd rfl (pid_strong (pid_zip (by rfl) F.zip (pad_cons (ppd_var (pv 1)) (pad_cons (ppd_var (pv 2)) pad_nil)))) (blkOk_by (own := [("_law_cells_so", 3), ("_law_inputs_so", 4)]) (N := N_law_ticks_of) (sc := defScope (top 70)) (by decide +kernel)) (fun _ _ _ _ _ => (pg_tup rfl (pgs_cons (pg_name (i := 3) nd rfl (by first | exact Or.inl rfl | exact Or.inr rfl)) (pgs_cons (pg_name (i := 4) nd rfl (by first | exact Or.inl rfl | exact Or.inr rfl)) pgs_nil)))) (gok_tup (gsok_cons (gok_name 3) (gsok_cons (gok_name 4) gsok_nil))) (by decide) (fun _ _ _ _ _ => ptsd_nil) (fun _ _ _ _ _ => (ppd_add (pb_of (ppd_var (pv 3))) (pb_of (ppd_var (pv 4))))))) (pad_cons (pp_of (pfd_list (by rfl) F.list (pab_cons (pb_of (ppd_slice (pb_of (ppd_var (pv 1))) (pod_some ppd_int) pod_none)) pab_nil))) pad_nil))))))
abbrev N_law_fit_parts : List Str := ["_law_piece_so", "_law_columns_so", "_law_nexts_so", "_law_many_so", "_law_found", "_law_first_so", "_law_last_so"]
theorem sc_law_fit_parts : FnScope N_law_fit_parts ["_law_piece_so"] (defScope (top 71)) := ⟨rfl, rfl, rfl, by decide +kernel, rfl, by decide +kernel, by decide +kernel⟩
theorem d_law_fit_parts {P : Program} {w : World} {K : PySem.W.Frag} {mg : Str → Option Value} {base : Heap} {sp sp_law_ticks_of sp_law_goes : SpD} {k : Nat} (F : Fr0 K mg) (D : Dfn K mg "_law_fit_parts" 71 ["_law_piece_so"]) {j_law_ticks_of : Nat} (k_law_ticks_of : Kn P w K mg base "_law_ticks_of" j_law_ticks_of ["_law_piece_so"] sp_law_ticks_of) (l_law_ticks_of : j_law_ticks_of ≤ k) {j_law_goes : Nat} (k_law_goes : Kn P w K mg base "_law_goes" j_law_goes ["_law_columns_so", "_law_nexts_so"] sp_law_goes) (l_law_goes : j_law_goes ≤ k)
    (hs : ∀ ds c Q, ds.length = 1 → sp ds c Q → t_law_fit_parts sp_law_ticks_of sp_law_goes (startR N_law_fit_parts ds) c (fun _ c' => Q .non c') Q) : Kn P w K mg base "_law_fit_parts" (k + 1) ["_law_piece_so"] sp :=
  have nd := sc_law_fit_parts.nd
  knD D sc_law_fit_parts (t_law_fit_parts sp_law_ticks_of sp_law_goes) hs fun f cdv A outer s H E τ G c hr =>
    (pssd_cons (psd_asg (ppd_callK k_law_ticks_of rfl hr (by omega) (by rfl) (pad_cons (ppd_var (pv 0)) pad_nil)) (pg_tup rfl (pgs_cons (pg_name (i := 1) nd rfl (by first | exact Or.inl rfl | exact Or.inr rfl)) (pgs_cons (pg_name (i := 2) nd rfl (by first | exact Or.inl rfl | exact Or.inr rfl)) pgs_nil))) (gok_tup (gsok_cons (gok_name 1) (gsok_cons (gok_name 2) gsok_nil))))
      (pssd_cons (psd_par (k1 := .va) (k2 := .od) (i := 3) (j := 4) rfl nd rfl rfl (by decide) rfl rfl (ppd_len (by rfl) F.len (pab_cons (pb_of (ppd_var (pv 1))) pab_nil)) pdd_dict (by rfl))
      (pssd_cons (psd_for PassesOwn.never rfl (pid_range1 (by rfl) F.range (pad_cons (ppd_var (pv 3)) pad_nil)) (pg_name (i := 5) nd rfl (by first | exact Or.inl rfl | exact Or.inr rfl)) (gok_name 5) (pssd_one (psd_for PassesOwn.never rfl (pid_range2 (by rfl) F.range (pad_cons (ppd_add (pb_of (ppd_var (pv 5))) (pb_of ppd_int)) (pad_cons (ppd_add (pb_of (ppd_var (pv 3))) (pb_of ppd_int)) pad_nil))) (pg_name (i := 6) nd rfl (by first | exact Or.inl rfl | exact Or.inr rfl)) (gok_name 6) (pssd_one (psd_dput (hu_of hr) (pv 4) (ppd_var (pv 5)) (ppd_var (pv 6)) (ppd_callK k_law_goes rfl hr (by omega) (by rfl) (pad_cons (ppd_slice (pb_of (ppd_var (pv 1))) (pod_some (ppd_var (pv 5))) (pod_some (ppd_var (pv 6)))) (pad_cons (ppd_slice (pb_of (ppd_var (pv 2))) (pod_some (ppd_var (pv 5))) (pod_some (ppd_var (pv 6)))) pad_nil))))))))
      (pssd_frz 4 (pssd_one (psd_ret (ppd_var (pv 4))))))))
abbrev N_law_lots_of_changes : List Str := ["_law_fits_so", "_law_many_so", "_law_found", "_law_own", "_law_ends_so", "_law_near_so", "_law_far_so"]
theorem sc_law_lots_of_changes : FnScope N_law_lots_of_changes ["_law_fits_so", "_law_many_so"] (defScope (top 72)) := ⟨rfl, rfl, rfl, by decide +kernel, rfl, by decide +kernel, by decide +kernel⟩
theorem d_law_lots_of_changes {P : Program} {w : World} {K : PySem.W.Frag} {mg : Str → Option Value} {base : Heap} {sp sp_law_subsets : SpD} {k : Nat} (F : Fr0 K mg) (D : Dfn K mg "_law_lots_of_changes" 72 ["_law_fits_so", "_law_many_so"]) {j_law_subsets : Nat} (k_law_subsets : Kn P w K mg base "_law_subsets" j_law_subsets ["_law_things_so"] sp_law_subsets) (l_law_subsets : j_law_subsets ≤ k)
    (hs : ∀ ds c Q, ds.length = 2 → sp ds c Q → t_law_lots_of_changes sp_law_subsets (startR N_law_lots_of_changes ds) c (fun _ c' => Q .non c') Q) : Kn P w K mg base "_law_lots_of_changes" (k + 1) ["_law_fits_so", "_law_many_so"] sp :=
  have nd := sc_law_lots_of_changes.nd
  knD D sc_law_lots_of_changes (t_law_lots_of_changes sp_law_subsets) hs fun f cdv A outer s H E τ G c hr =>
    (pssd_cons (psd_set (k := .ow) (i := 2) nd rfl (by first | exact Or.inl rfl | exact Or.inr rfl) (pfd_lst pad_nil))
      (pssd_cons (psd_for PassesOwn.never rfl (pid_seq (ppd_callK k_law_subsets rfl hr (by omega) (by rfl) (pad_cons (ppd_lrange rfl (by rfl) F.list (by rfl) F.range ppd_int (ppd_var (pv 1))) pad_nil))) (pg_name (i := 3) nd rfl (by first | exact Or.inl rfl | exact Or.inr rfl)) (gok_name 3) (pssd_cons (psd_set (k := .va) (i := 4) nd rfl (by first | exact Or.inl rfl | exact Or.inr rfl) (ppd_add (pb_of (ppd_add (pb_of (ppd_tup (pad_cons ppd_int pad_nil))) (pb_of (ppd_var (pv 3))))) (pb_of (ppd_tup (pad_cons (ppd_var (pv 1)) pad_nil)))))
      (pssd_one (psd_if (Cmp.pt (c_eq hr.units (pb_of (pp_of (pfd_lc rfl nd rfl (pid_strong (pid_zip (by rfl) F.zip (pad_cons (ppd_var (pv 4)) (pad_cons (ppd_slice (pb_of (ppd_var (pv 4))) (pod_some ppd_int) pod_none) pad_nil)))) (blkOk_by (own := [("_law_near_so", 5), ("_law_far_so", 6)]) (N := N_law_lots_of_changes) (sc := defScope (top 72)) (by decide +kernel)) (fun _ _ _ _ _ => (pg_tup rfl (pgs_cons (pg_name (i := 5) nd rfl (by first | exact Or.inl rfl | exact Or.inr rfl)) (pgs_cons (pg_name (i := 6) nd rfl (by first | exact Or.inl rfl | exact Or.inr rfl)) pgs_nil)))) (gok_tup (gsok_cons (gok_name 5) (gsok_cons (gok_name 6) gsok_nil))) (by decide) (fun _ _ _ _ _ => (ptsd_one (ptd_not (ptd_val (ppd_dget (hu_of hr) (ppd_var (pv 0)) (ppd_tup (pad_cons (ppd_var (pv 5)) (pad_cons (ppd_var (pv 6)) pad_nil)))))))) (fun _ _ _ _ _ => ppd_int)))) (pb_of (pp_of (pfd_lst pad_nil))))) (pssd_one (psd_append (pv 2) (ppd_var (pv 3)))) pssd_nil))))
      (pssd_frz 2 (pssd_one (psd_ret (ppd_var (pv 2)))))))
abbrev N_law_drawn_piece : List Str := ["_law_tin", "_law_n_so", "_law_m_so", "_law_ticks_so", "_law_machines_so", "_law_lap", "_law_line_so", "_law_given_so", "_law_now_so", "_law_k", "_law_spot_so"]
theorem sc_law_drawn_piece : FnScope N_law_drawn_piece ["_law_tin"] (defScope (top 74)) := ⟨rfl, rfl, rfl, by decide +kernel, rfl, by decide +kernel, by decide +kernel⟩
theorem d_law_drawn_piece {P : Program} {w : World} {K : PySem.W.Frag} {mg : Str → Option Value} {base : Heap} {sp sp_law_of sp_law_shifted sp_law_machine sp_law_row sp_law_given sp_law_take sp_law_on sp_law_whole : SpD} {k : Nat} (F : Fr0 K mg) (D : Dfn K mg "_law_drawn_piece" 74 ["_law_tin"]) {j_law_of : Nat} (k_law_of : Kn P w K mg base "_law_of" j_law_of ["_law_tin", "_law_goods_so"] sp_law_of) (l_law_of : j_law_of ≤ k) {j_law_shifted : Nat} (k_law_shifted : Kn P w K mg base "_law_shifted" j_law_shifted ["_law_tin", "_law_machine_so"] sp_law_shifted) (l_law_shifted : j_law_shifted ≤ k) {j_law_machine : Nat} (k_law_machine : Kn P w K mg base "_law_machine" j_law_machine ["_law_tin", "_law_n_so", "_law_m_so"] sp_law_machine) (l_law_machine : j_law_machine ≤ k) {j_law_row : Nat} (k_law_row : Kn P w K mg base "_law_row" j_law_row ["_law_tin", "_law_size_so"] sp_law_row) (l_law_row : j_law_row ≤ k) {j_law_given : Nat} (k_law_given : Kn P w K mg base "_law_given" j_law_given ["_law_tin", "_law_m_so", "_law_ticks_so"] sp_law_given) (l_law_given : j_law_given ≤ k) {j_law_take : Nat} (k_law_take : Kn P w K mg base "_law_take" j_law_take ["_law_tin", "_law_below_so"] sp_law_take) (l_law_take : j_law_take ≤ k) {j_law_on : Nat} (k_law_on : Kn P w K mg base "_law_on" j_law_on ["_law_machine_so", "_law_cells_so", "_law_inputs_so"] sp_law_on) (l_law_on : j_law_on ≤ k) {j_law_whole : Nat} (k_law_whole : Kn P w K mg base "_law_whole" j_law_whole ["_law_tin"] sp_law_whole) (l_law_whole : j_law_whole ≤ k)
    (hs : ∀ ds c Q, ds.length = 1 → sp ds c Q → t_law_drawn_piece sp_law_of sp_law_shifted sp_law_machine sp_law_row sp_law_given sp_law_take sp_law_on sp_law_whole (startR N_law_drawn_piece ds) c (fun _ c' => Q .non c') Q) : Kn P w K mg base "_law_drawn_piece" (k + 1) ["_law_tin"] sp :=
  have nd := sc_law_drawn_piece.nd
  knD D sc_law_drawn_piece (t_law_drawn_piece sp_law_of sp_law_shifted sp_law_machine sp_law_row sp_law_given sp_law_take sp_law_on sp_law_whole) hs fun f cdv A outer s H E τ G c hr =>
    (pssd_cons (psd_asg (ppd_tup (pad_cons (ppd_callK k_law_of rfl hr (by omega) (by rfl) (pad_cons (ppd_var (pv 0)) (pad_cons (pp_of (pfd_lst (pad_cons ppd_int (pad_cons ppd_int (pad_cons ppd_int (pad_cons ppd_int pad_nil)))))) pad_nil))) (pad_cons (ppd_callK k_law_of rfl hr (by omega) (by rfl) (pad_cons (ppd_var (pv 0)) (pad_cons (pp_of (pfd_lst (pad_cons ppd_int (pad_cons ppd_int (pad_cons ppd_int (pad_cons ppd_int (pad_cons ppd_int pad_nil))))))) pad_nil))) (pad_cons (ppd_callK k_law_of rfl hr (by omega) (by rfl) (pad_cons (ppd_var (pv 0)) (pad_cons (pp_of (pfd_lst (pad_cons ppd_int (pad_cons ppd_int (pad_cons ppd_int (pad_cons ppd_int (pad_cons ppd_int (pad_cons ppd_int (pad_cons ppd_int pad_nil))))))))) pad_nil))) pad_nil)))) (pg_tup rfl (pgs_cons (pg_name (i := 1) nd rfl (by first | exact Or.inl rfl | exact Or.inr rfl)) (pgs_cons (pg_name (i := 2) nd rfl (by first | exact Or.inl rfl | exact Or.inr rfl)) (pgs_cons (pg_name (i := 3) nd rfl (by first | exact Or.inl rfl | exact Or.inr rfl)) pgs_nil)))) (gok_tup (gsok_cons (gok_name 1) (gsok_cons (gok_name 2) (gsok_cons (gok_name 3) gsok_nil)))))
      (pssd_cons (psd_setLc (k := .va) (i := 4) (by first | exact .inl rfl | exact .inr rfl) rfl nd rfl rfl (sw_true rfl rfl rfl (by decide +kernel)) rfl (pid_strong (pid_range1 (by rfl) F.range (pad_cons ppd_int pad_nil))) (blkOk_by (own := [("_law_lap", 5)]) (N := N_law_drawn_piece) (sc := defScope (top 74)) (by decide +kernel)) (fun _ _ _ _ _ => (pg_name (i := 5) nd rfl (by first | exact Or.inl rfl | exact Or.inr rfl))) (gok_name 5) (by decide) (fun _ _ _ _ _ => ptsd_nil) (fun _ _ _ _ _ => (ppd_callK k_law_shifted rfl hr (by omega) (by rfl) (pad_cons (ppd_var (pv 0)) (pad_cons (ppd_callK k_law_machine rfl hr (by omega) (by rfl) (pad_cons (ppd_var (pv 0)) (pad_cons (ppd_var (pv 1)) (pad_cons (ppd_var (pv 2)) pad_nil)))) pad_nil)))))
      (pssd_cons (psd_par3 (k1 := .ow) (k2 := .va) (k3 := .va) (i := 6) (j := 7) (l := 8) rfl nd rfl rfl rfl (by decide) (by decide) (by decide) rfl rfl rfl (pfd_lst (pad_cons (ppd_callK k_law_row rfl hr (by omega) (by rfl) (pad_cons (ppd_var (pv 0)) (pad_cons (ppd_var (pv 1)) pad_nil))) pad_nil)) (ppd_callK k_law_given rfl hr (by omega) (by rfl) (pad_cons (ppd_var (pv 0)) (pad_cons (ppd_var (pv 2)) (pad_cons (ppd_var (pv 3)) pad_nil)))) ppd_int (by rfl))
      (pssd_cons (psd_for PassesOwn.never rfl (pid_range1 (by rfl) F.range (pad_cons (ppd_var (pv 3)) pad_nil)) (pg_name (i := 9) nd rfl (by first | exact Or.inl rfl | exact Or.inr rfl)) (gok_name 9) (pssd_cons (psd_set (k := .va) (i := 8) nd rfl (by first | exact Or.inl rfl | exact Or.inr rfl) (ppd_add (pb_of (ppd_var (pv 8))) (pb_of (ppd_intc (by rfl) F.int (pad_cons (ppd_and (Cmp.pp (c_gt (ppd_var (pv 9)) ppd_int)) (ppd_one (Cmp.pp (c_lt (ppd_callK k_law_take rfl hr (by omega) (by rfl) (pad_cons (ppd_var (pv 0)) (pad_cons ppd_int pad_nil))) ppd_int)))) pad_nil)))))
      (pssd_one (psd_append (pv 6) (ppd_callK k_law_on rfl hr (by omega) (by rfl) (pad_cons (ppd_ix (pb_of (ppd_var (pv 4))) (ppd_min2 rfl (by rfl) F.min (pad_cons (ppd_var (pv 8)) (pad_cons ppd_int pad_nil)))) (pad_cons (ppd_ix (pbd_own (pv 6)) (ppd_neg ppd_int)) (pad_cons (ppd_ix (pb_of (ppd_var (pv 7))) (ppd_var (pv 9))) pad_nil))))))))
      (pssd_cons (psd_if (Cmp.pt (c_eq hr.units (pb_of (ppd_callK k_law_take rfl hr (by omega) (by rfl) (pad_cons (ppd_var (pv 0)) (pad_cons ppd_int pad_nil)))) (pb_of ppd_int))) (pssd_cons (psd_set (k := .va) (i := 10) nd rfl (by first | exact Or.inl rfl | exact Or.inr rfl) (ppd_callK k_law_take rfl hr (by omega) (by rfl) (pad_cons (ppd_var (pv 0)) (pad_cons (ppd_add (pb_of (ppd_var (pv 3))) (pb_of ppd_int)) pad_nil))))
      (pssd_one (psd_put (pv 6) (ppd_var (pv 10)) (ppd_tuple (by rfl) F.tuple (pab_cons (pb_of (pp_of (pfd_lc rfl nd rfl (pid_strong (pid_range1 (by rfl) F.range (pad_cons (ppd_var (pv 1)) pad_nil))) (blkOk_by (own := [("_law_k", 9)]) (N := N_law_drawn_piece) (sc := defScope (top 74)) (by decide +kernel)) (fun _ _ _ _ _ => (pg_name (i := 9) nd rfl (by first | exact Or.inl rfl | exact Or.inr rfl))) (gok_name 9) (by decide) (fun _ _ _ _ _ => ptsd_nil) (fun _ _ _ _ _ => (ppd_callK k_law_whole rfl hr (by omega) (by rfl) (pad_cons (ppd_var (pv 0)) pad_nil)))))) pab_nil))))) pssd_nil)
      (pssd_one (psd_ret (ppd_tup (pad_cons (ppd_tuple (by rfl) F.tuple (pab_cons (pbd_own (pv 6)) pab_nil)) (pad_cons (ppd_var (pv 7)) pad_nil))))))))))
abbrev N_law_piece_right : List Str := ["_law_tin", "_law_piece_so", "_law_many_so", "_law_fits_so", "_law_soft_so", "_law_spans_so", "_law_own", "_law_lots_so", "_law_got", "_law_fewest_so", "_law_places_so", "_law_j", "_law_due", "_law_k", "_law_lap", "_law_first_so", "_law_last_so"]
theorem sc_law_piece_right : FnScope N_law_piece_right ["_law_tin", "_law_piece_so"] (defScope (top 77)) := ⟨rfl, rfl, rfl, by decide +kernel, rfl, by decide +kernel, by decide +kernel⟩
theorem d_law_piece_right {P : Program} {w : World} {K : PySem.W.Frag} {mg : Str → Option Value} {base : Heap} {sp sp_law_fit_parts sp_law_lists sp_law_same sp_part_fits sp_law_lots_of_changes sp_fewest_changes sp_law_heard sp_law_refused sp_could_change sp_law_take sp_sure_change : SpD} {k : Nat} (F : Fr0 K mg) (D : Dfn K mg "_law_piece_right" 77 ["_law_tin", "_law_piece_so"]) {j_law_fit_parts : Nat} (k_law_fit_parts : Kn P w K mg base "_law_fit_parts" j_law_fit_parts ["_law_piece_so"] sp_law_fit_parts) (l_law_fit_parts : j_law_fit_parts ≤ k) {j_law_lists : Nat} (k_law_lists : Kn P w K mg base "_law_lists" j_law_lists ["_law_matter"] sp_law_lists) (l_law_lists : j_law_lists ≤ k) {j_law_same : Nat} (k_law_same : Kn P w K mg base "_law_same" j_law_same ["_law_got", "_law_due"] sp_law_same) (l_law_same : j_law_same ≤ k) {j_part_fits : Nat} (k_part_fits : Kn P w K mg base "part_fits" j_part_fits ["piece", "first", "last"] sp_part_fits) (l_part_fits : j_part_fits ≤ k) {j_law_lots_of_changes : Nat} (k_law_lots_of_changes : Kn P w K mg base "_law_lots_of_changes" j_law_lots_of_changes ["_law_fits_so", "_law_many_so"] sp_law_lots_of_changes) (l_law_lots_of_changes : j_law_lots_of_changes ≤ k) {j_fewest_changes : Nat} (k_fewest_changes : Kn P w K mg base "fewest_changes" j_fewest_changes ["piece"] sp_fewest_changes) (l_fewest_changes : j_fewest_changes ≤ k) {j_law_heard : Nat} (k_law_heard : Kn P w K mg base "_law_heard" j_law_heard ["_law_door_so", "_law_piece_so"] sp_law_heard) (l_law_heard : j_law_heard ≤ k) {j_law_refused : Nat} (k_law_refused : Kn P w K mg base "_law_refused" j_law_refused ["_law_door_so", "_law_piece_so"] sp_law_refused) (l_law_refused : j_law_refused ≤ k) {j_could_change : Nat} (k_could_change : Kn P w K mg base "could_change" j_could_change ["piece", "tick"] sp_could_change) (l_could_change : j_could_change ≤ k) {j_law_take : Nat} (k_law_take : Kn P w K mg base "_law_take" j_law_take ["_law_tin", "_law_below_so"] sp_law_take) (l_law_take : j_law_take ≤ k) {j_sure_change : Nat} (k_sure_change : Kn P w K mg base "sure_change" j_sure_change ["piece", "first", "last"] sp_sure_change) (l_sure_change : j_sure_change ≤ k)
    (hs : ∀ ds c Q, ds.length = 2 → sp ds c Q → t_law_piece_right sp_law_fit_parts sp_law_lists sp_law_same sp_part_fits sp_law_lots_of_changes sp_fewest_changes sp_law_heard sp_law_refused sp_could_change sp_law_take sp_sure_change (startR N_law_piece_right ds) c (fun _ c' => Q .non c') Q) : Kn P w K mg base "_law_piece_right" (k + 1) ["_law_tin", "_law_piece_so"] sp :=
  have nd := sc_law_piece_right.nd
  knD D sc_law_piece_right (t_law_piece_right sp_law_fit_parts sp_law_lists sp_law_same sp_part_fits sp_law_lots_of_changes sp_fewest_changes sp_law_heard sp_law_refused sp_could_change sp_law_take sp_sure_change) hs fun f cdv A outer s H E τ G c hr =>
    (pssd_cons (psd_asg (ppd_tup (pad_cons (ppd_len (by rfl) F.len (pab_cons (pb_of (ppd_ix (pb_of (ppd_var (pv 1))) ppd_int)) pab_nil)) (pad_cons (ppd_callK k_law_fit_parts rfl hr (by omega) (by rfl) (pad_cons (ppd_var (pv 1)) pad_nil)) (pad_cons (ppd_callK k_law_lists rfl hr (by omega) (by rfl) (pad_cons (ppd_var (pv 1)) pad_nil)) pad_nil)))) (pg_tup rfl (pgs_cons (pg_name (i := 2) nd rfl (by first | exact Or.inl rfl | exact Or.inr rfl)) (pgs_cons (pg_name (i := 3) nd rfl (by first | exact Or.inl rfl | exact Or.inr rfl)) (pgs_cons (pg_name (i := 4) nd rfl (by first | exact Or.inl rfl | exact Or.inr rfl)) pgs_nil)))) (gok_tup (gsok_cons (gok_name 2) (gsok_cons (gok_name 3) (gsok_cons (gok_name 4) gsok_nil)))))
      (pssd_cons (psd_set (k := .va) (i := 5) nd rfl (by first | exact Or.inl rfl | exact Or.inr rfl) (pp_of (pfd_sortd rfl (by rfl) F.sorted (pad_cons (ppd_var (pv 3)) pad_nil))))
      (pssd_cons (psd_if (ptd_not (ptd_val (ppd_callK k_law_same rfl hr (by omega) (by rfl) (pad_cons (pp_of (pfd_lc rfl nd rfl (pid_strong (pid_seq (ppd_var (pv 5)))) (blkOk_by (own := [("_law_own", 6)]) (N := N_law_piece_right) (sc := defScope (top 77)) (by decide +kernel)) (fun _ _ _ _ _ => (pg_name (i := 6) nd rfl (by first | exact Or.inl rfl | exact Or.inr rfl))) (gok_name 6) (by decide) (fun _ _ _ _ _ => ptsd_nil) (fun _ _ _ _ _ => (ppd_callK k_part_fits rfl hr (by omega) (by rfl) (pad_cons (ppd_var (pv 1)) (pad_cons (ppd_ix (pb_of (ppd_var (pv 6))) ppd_int) (pad_cons (ppd_ix (pb_of (ppd_var (pv 6))) ppd_int) pad_nil))))))) (pad_cons (pp_of (pfd_lc rfl nd rfl (pid_strong (pid_seq (ppd_var (pv 5)))) (blkOk_by (own := [("_law_own", 6)]) (N := N_law_piece_right) (sc := defScope (top 77)) (by decide +kernel)) (fun _ _ _ _ _ => (pg_name (i := 6) nd rfl (by first | exact Or.inl rfl | exact Or.inr rfl))) (gok_name 6) (by decide) (fun _ _ _ _ _ => ptsd_nil) (fun _ _ _ _ _ => (ppd_dget (hu_of hr) (ppd_var (pv 3)) (ppd_var (pv 6)))))) pad_nil))))) (pssd_one (psd_ret ppd_bl)) pssd_nil)
      (pssd_cons (psd_set (k := .va) (i := 7) nd rfl (by first | exact Or.inl rfl | exact Or.inr rfl) (ppd_callK k_law_lots_of_changes rfl hr (by omega) (by rfl) (pad_cons (ppd_var (pv 3)) (pad_cons (ppd_var (pv 2)) pad_nil))))
      (pssd_cons (psd_if (Cmp.pt (c_eq hr.units (pb_of (ppd_var (pv 7))) (pb_of (pp_of (pfd_lst pad_nil))))) (pssd_cons (psd_set (k := .ow) (i := 8) nd rfl (by first | exact Or.inl rfl | exact Or.inr rfl) (pfd_lst (pad_cons (ppd_callK k_fewest_changes rfl hr (by omega) (by rfl) (pad_cons (ppd_var (pv 1)) pad_nil)) (pad_cons (ppd_callK k_law_heard rfl hr (by omega) (by rfl) (pad_cons ppd_int (pad_cons (ppd_var (pv 1)) pad_nil))) (pad_cons (ppd_callK k_law_heard rfl hr (by omega) (by rfl) (pad_cons ppd_int (pad_cons (ppd_var (pv 4)) pad_nil))) (pad_cons (ppd_callK k_law_refused rfl hr (by omega) (by rfl) (pad_cons ppd_int (pad_cons (ppd_var (pv 4)) pad_nil))) (pad_cons (ppd_callK k_law_refused rfl hr (by omega) (by rfl) (pad_cons ppd_int (pad_cons (ppd_var (pv 1)) pad_nil))) pad_nil)))))))
      (pssd_frz 8 (pssd_one (psd_ret (ppd_callK k_law_same rfl hr (by omega) (by rfl) (pad_cons (ppd_var (pv 8)) (pad_cons (pp_of (pfd_lst (pad_cons ppd_non (pad_cons ppd_non (pad_cons ppd_non (pad_cons ppd_bl (pad_cons ppd_bl pad_nil))))))) pad_nil))))))) pssd_nil)
      (pssd_cons (psd_set (k := .va) (i := 9) nd rfl (by first | exact Or.inl rfl | exact Or.inr rfl) (ppd_minL rfl (by rfl) F.min (pad_cons (pp_of (pfd_lc rfl nd rfl (pid_strong (pid_seq (ppd_var (pv 7)))) (blkOk_by (own := [("_law_own", 6)]) (N := N_law_piece_right) (sc := defScope (top 77)) (by decide +kernel)) (fun _ _ _ _ _ => (pg_name (i := 6) nd rfl (by first | exact Or.inl rfl | exact Or.inr rfl))) (gok_name 6) (by decide) (fun _ _ _ _ _ => ptsd_nil) (fun _ _ _ _ _ => (ppd_len (by rfl) F.len (pab_cons (pb_of (ppd_var (pv 6))) pab_nil))))) pad_nil)))
      (pssd_cons (psd_set (k := .va) (i := 7) nd rfl (by first | exact Or.inl rfl | exact Or.inr rfl) (pp_of (pfd_lc rfl nd rfl (pid_strong (pid_seq (ppd_var (pv 7)))) (blkOk_by (own := [("_law_own", 6)]) (N := N_law_piece_right) (sc := defScope (top 77)) (by decide +kernel)) (fun _ _ _ _ _ => (pg_name (i := 6) nd rfl (by first | exact Or.inl rfl | exact Or.inr rfl))) (gok_name 6) (by decide) (fun _ _ _ _ _ => (ptsd_one (Cmp.pt (c_eq hr.units (pb_of (ppd_len (by rfl) F.len (pab_cons (pb_of (ppd_var (pv 6))) pab_nil))) (pb_of (ppd_var (pv 9))))))) (fun _ _ _ _ _ => (ppd_var (pv 6))))))
      (pssd_cons (psd_setLc (k := .va) (i := 10) (by first | exact .inl rfl | exact .inr rfl) rfl nd rfl rfl (sw_true rfl rfl rfl (by decide +kernel)) rfl (pid_strong (pid_range1 (by rfl) F.range (pad_cons (ppd_var (pv 9)) pad_nil))) (blkOk_by (own := [("_law_j", 11)]) (N := N_law_piece_right) (sc := defScope (top 77)) (by decide +kernel)) (fun _ _ _ _ _ => (pg_name (i := 11) nd rfl (by first | exact Or.inl rfl | exact Or.inr rfl))) (gok_name 11) (by decide) (fun _ _ _ _ _ => ptsd_nil) (fun _ _ _ _ _ => (pp_of (pfd_lc rfl nd rfl (pid_strong (pid_seq (ppd_var (pv 7)))) (blkOk_by (own := [("_law_own", 6)]) (by rfl)) (fun _ _ _ _ _ => (pg_name (i := 6) nd rfl (by first | exact Or.inl rfl | exact Or.inr rfl))) (gok_name 6) (by decide) (fun _ _ _ _ _ => ptsd_nil) (fun _ _ _ _ _ => (ppd_ix (pb_of (ppd_var (pv 6))) (ppd_var (pv 11))))))))
      (pssd_cons (psd_set (k := .ow) (i := 12) nd rfl (by first | exact Or.inl rfl | exact Or.inr rfl) (pfd_lst (pad_cons (ppd_var (pv 9)) (pad_cons (ppd_tuple (by rfl) F.tuple (pab_cons (pb_of (pp_of (pfd_lc rfl nd rfl (pid_strong (pid_seq (ppd_var (pv 10)))) (blkOk_by (own := [("_law_own", 6)]) (N := N_law_piece_right) (sc := defScope (top 77)) (by decide +kernel)) (fun _ _ _ _ _ => (pg_name (i := 6) nd rfl (by first | exact Or.inl rfl | exact Or.inr rfl))) (gok_name 6) (by decide) (fun _ _ _ _ _ => ptsd_nil) (fun _ _ _ _ _ => (ppd_minL rfl (by rfl) F.min (pad_cons (ppd_var (pv 6)) pad_nil)))))) pab_nil)) (pad_cons (ppd_tuple (by rfl) F.tuple (pab_cons (pb_of (pp_of (pfd_lc rfl nd rfl (pid_strong (pid_seq (ppd_var (pv 10)))) (blkOk_by (own := [("_law_own", 6)]) (N := N_law_piece_right) (sc := defScope (top 77)) (by decide +kernel)) (fun _ _ _ _ _ => (pg_name (i := 6) nd rfl (by first | exact Or.inl rfl | exact Or.inr rfl))) (gok_name 6) (by decide) (fun _ _ _ _ _ => ptsd_nil) (fun _ _ _ _ _ => (ppd_maxL rfl (by rfl) F.max (pad_cons (ppd_var (pv 6)) pad_nil)))))) pab_nil)) pad_nil)))))
      (pssd_cons (psd_set (k := .ow) (i := 8) nd rfl (by first | exact Or.inl rfl | exact Or.inr rfl) (pfd_lst (pad_cons (ppd_callK k_fewest_changes rfl hr (by omega) (by rfl) (pad_cons (ppd_var (pv 4)) pad_nil)) (pad_cons (ppd_callK k_law_heard rfl hr (by omega) (by rfl) (pad_cons ppd_int (pad_cons (ppd_var (pv 1)) pad_nil))) (pad_cons (ppd_callK k_law_heard rfl hr (by omega) (by rfl) (pad_cons ppd_int (pad_cons (ppd_var (pv 4)) pad_nil))) pad_nil)))))
      (pssd_cons (psd_for PassesOwn.never rfl (pid_range2 (by rfl) F.range (pad_cons (ppd_neg ppd_int) (pad_cons (ppd_add (pb_of (ppd_var (pv 2))) (pb_of ppd_int)) pad_nil))) (pg_name (i := 13) nd rfl (by first | exact Or.inl rfl | exact Or.inr rfl)) (gok_name 13) (pssd_cons (psd_append (pv 8) (ppd_callK k_could_change rfl hr (by omega) (by rfl) (pad_cons (ppd_var (pv 1)) (pad_cons (ppd_var (pv 13)) pad_nil))))
      (pssd_one (psd_append (pv 12) (Cmp.pp (c_ne hr.units (pb_of (pp_of (pfd_lc rfl nd rfl (pid_strong (pid_seq (ppd_var (pv 7)))) (blkOk_by (own := [("_law_own", 6)]) (N := N_law_piece_right) (sc := defScope (top 77)) (by decide +kernel)) (fun _ _ _ _ _ => (pg_name (i := 6) nd rfl (by first | exact Or.inl rfl | exact Or.inr rfl))) (gok_name 6) (by decide) (fun _ _ _ _ _ => (ptsd_one (Cmp.pt (c_in (ppd_var (pv 13)) (ppd_var (pv 6)) (by rfl))))) (fun _ _ _ _ _ => (ppd_var (pv 6)))))) (pb_of (pp_of (pfd_lst pad_nil)))))))))
      (pssd_cons (psd_for PassesOwn.never rfl (pid_range1 (by rfl) F.range (pad_cons ppd_int pad_nil)) (pg_name (i := 14) nd rfl (by first | exact Or.inl rfl | exact Or.inr rfl)) (gok_name 14) (pssd_cons (psd_asg (ppd_tup (pad_cons (ppd_sub (ppd_callK k_law_take rfl hr (by omega) (by rfl) (pad_cons (ppd_var (pv 0)) (pad_cons (ppd_add (pb_of (ppd_var (pv 2))) (pb_of ppd_int)) pad_nil))) ppd_int) (pad_cons (ppd_sub (ppd_callK k_law_take rfl hr (by omega) (by rfl) (pad_cons (ppd_var (pv 0)) (pad_cons (ppd_add (pb_of (ppd_var (pv 2))) (pb_of ppd_int)) pad_nil))) ppd_int) pad_nil))) (pg_tup rfl (pgs_cons (pg_name (i := 15) nd rfl (by first | exact Or.inl rfl | exact Or.inr rfl)) (pgs_cons (pg_name (i := 16) nd rfl (by first | exact Or.inl rfl | exact Or.inr rfl)) pgs_nil))) (gok_tup (gsok_cons (gok_name 15) (gsok_cons (gok_name 16) gsok_nil))))
      (pssd_cons (psd_append (pv 8) (ppd_callK k_sure_change rfl hr (by omega) (by rfl) (pad_cons (ppd_var (pv 4)) (pad_cons (ppd_var (pv 15)) (pad_cons (ppd_var (pv 16)) pad_nil)))))
      (pssd_one (psd_append (pv 12) (Cmp.pp (c_eq hr.units (pb_of (pp_of (pfd_lc rfl nd rfl (pid_strong (pid_seq (ppd_var (pv 7)))) (blkOk_by (own := [("_law_own", 6)]) (N := N_law_piece_right) (sc := defScope (top 77)) (by decide +kernel)) (fun _ _ _ _ _ => (pg_name (i := 6) nd rfl (by first | exact Or.inl rfl | exact Or.inr rfl))) (gok_name 6) (by decide) (fun _ _ _ _ _ => (ptsd_one (Cmp.pt (c_eq hr.units (pb_of (pp_of (pfd_lc rfl nd rfl (pid_strong (pid_seq (ppd_var (pv 6)))) (blkOk_by (own := [("_law_k", 13)]) (by rfl)) (fun _ _ _ _ _ => (pg_name (i := 13) nd rfl (by first | exact Or.inl rfl | exact Or.inr rfl))) (gok_name 13) (by decide) (fun _ _ _ _ _ => (ptsd_one (ptd_ltle (ppd_var (pv 15)) (ppd_var (pv 13)) (ppd_var (pv 16))))) (fun _ _ _ _ _ => (ppd_var (pv 13)))))) (pb_of (pp_of (pfd_lst pad_nil))))))) (fun _ _ _ _ _ => (ppd_var (pv 6)))))) (pb_of (pp_of (pfd_lst pad_nil))))))))))
      (pssd_one (psd_ret (ppd_callK k_law_same rfl hr (by omega) (by rfl) (pad_cons (ppd_add (pbd_own (pv 8)) (pb_of (pp_of (pfd_lst (pad_cons (ppd_var (pv 4)) pad_nil))))) (pad_cons (ppd_add (pbd_own (pv 12)) (pb_of (pp_of (pfd_lst (pad_cons (ppd_callK k_law_lists rfl hr (by omega) (by rfl) (pad_cons (ppd_var (pv 1)) pad_nil)) pad_nil))))) pad_nil)))))))))))))))))
abbrev N_law_by_hand_right : List Str := ["_law_line_so", "_law_first_so", "_law_twice_so", "_law_k", "_law_got"]
theorem sc_law_by_hand_right : FnScope N_law_by_hand_right [] (defScope (top 78)) := ⟨rfl, rfl, rfl, by decide +kernel, rfl, by decide +kernel, by decide +kernel⟩
theorem d_law_by_hand_right {P : Program} {w : World} {K : PySem.W.Frag} {mg : Str → Option Value} {base : Heap} {sp sp_fewest_changes sp_law_heard sp_sure_change sp_could_change sp_law_same : SpD} {k : Nat} (F : Fr0 K mg) (D : Dfn K mg "_law_by_hand_right" 78 []) {j_fewest_changes : Nat} (k_fewest_changes : Kn P w K mg base "fewest_changes" j_fewest_changes ["piece"] sp_fewest_changes) (l_fewest_changes : j_fewest_changes ≤ k) {j_law_heard : Nat} (k_law_heard : Kn P w K mg base "_law_heard" j_law_heard ["_law_door_so", "_law_piece_so"] sp_law_heard) (l_law_heard : j_law_heard ≤ k) {j_sure_change : Nat} (k_sure_change : Kn P w K mg base "sure_change" j_sure_change ["piece", "first", "last"] sp_sure_change) (l_sure_change : j_sure_change ≤ k) {j_could_change : Nat} (k_could_change : Kn P w K mg base "could_change" j_could_change ["piece", "tick"] sp_could_change) (l_could_change : j_could_change ≤ k) {j_law_same : Nat} (k_law_same : Kn P w K mg base "_law_same" j_law_same ["_law_got", "_law_due"] sp_law_same) (l_law_same : j_law_same ≤ k)
    (hs : ∀ ds c Q, ds.length = 0 → sp ds c Q → t_law_by_hand_right sp_fewest_changes sp_law_heard sp_sure_change sp_could_change sp_law_same (startR N_law_by_hand_right ds) c (fun _ c' => Q .non c') Q) : Kn P w K mg base "_law_by_hand_right" (k + 1) [] sp :=
  have nd := sc_law_by_hand_right.nd
  knD D sc_law_by_hand_right (t_law_by_hand_right sp_fewest_changes sp_law_heard sp_sure_change sp_could_change sp_law_same) hs fun f cdv A outer s H E τ G c hr =>
    (pssd_cons (psd_set (k := .va) (i := 0) nd rfl (by first | exact Or.inl rfl | exact Or.inr rfl) (ppd_tup (pad_cons (ppd_tup (pad_cons (ppd_tup (pad_cons ppd_int (pad_cons ppd_int pad_nil))) pad_nil)) (pad_cons (ppd_tup (pad_cons (ppd_tup (pad_cons ppd_int (pad_cons ppd_int pad_nil))) pad_nil)) (pad_cons (ppd_tup (pad_cons (ppd_tup (pad_cons ppd_int (pad_cons ppd_int pad_nil))) pad_nil)) (pad_cons (ppd_tup (pad_cons (ppd_tup (pad_cons ppd_int (pad_cons ppd_int pad_nil))) pad_nil)) pad_nil))))))
      (pssd_cons (psd_set (k := .va) (i := 1) nd rfl (by first | exact Or.inl rfl | exact Or.inr rfl) (ppd_tup (pad_cons (ppd_var (pv 0)) (pad_cons (ppd_tup (pad_cons (ppd_tup (pad_cons (ppd_tup (pad_cons ppd_int (pad_cons ppd_int pad_nil))) pad_nil)) (pad_cons (ppd_tup (pad_cons (ppd_tup (pad_cons ppd_int (pad_cons ppd_int pad_nil))) pad_nil)) (pad_cons (ppd_tup (pad_cons (ppd_tup (pad_cons ppd_int (pad_cons ppd_int pad_nil))) pad_nil)) pad_nil)))) pad_nil))))
      (pssd_cons (psd_set (k := .va) (i := 2) nd rfl (by first | exact Or.inl rfl | exact Or.inr rfl) (ppd_tup (pad_cons (ppd_tuple (by rfl) F.tuple (pab_cons (pb_of (pp_of (pfd_lc rfl nd rfl (pid_strong (pid_seq (ppd_tup (pad_cons ppd_int (pad_cons ppd_int (pad_cons ppd_int (pad_cons ppd_int (pad_cons ppd_int (pad_cons ppd_int (pad_cons ppd_int (pad_cons ppd_int pad_nil))))))))))) (blkOk_by (own := [("_law_k", 3)]) (N := N_law_by_hand_right) (sc := defScope (top 78)) (by decide +kernel)) (fun _ _ _ _ _ => (pg_name (i := 3) nd rfl (by first | exact Or.inl rfl | exact Or.inr rfl))) (gok_name 3) (by decide) (fun _ _ _ _ _ => ptsd_nil) (fun _ _ _ _ _ => (ppd_tup (pad_cons (ppd_tup (pad_cons (ppd_var (pv 3)) (pad_cons ppd_int pad_nil))) pad_nil)))))) pab_nil)) (pad_cons (ppd_tuple (by rfl) F.tuple (pab_cons (pb_of (pp_of (pfd_lc rfl nd rfl (pid_strong (pid_seq (ppd_tup (pad_cons ppd_int (pad_cons ppd_int (pad_cons ppd_int (pad_cons ppd_int (pad_cons ppd_int (pad_cons ppd_int (pad_cons ppd_int pad_nil)))))))))) (blkOk_by (own := [("_law_k", 3)]) (N := N_law_by_hand_right) (sc := defScope (top 78)) (by decide +kernel)) (fun _ _ _ _ _ => (pg_name (i := 3) nd rfl (by first | exact Or.inl rfl | exact Or.inr rfl))) (gok_name 3) (by decide) (fun _ _ _ _ _ => ptsd_nil) (fun _ _ _ _ _ => (ppd_tup (pad_cons (ppd_tup (pad_cons (ppd_var (pv 3)) (pad_cons ppd_int pad_nil))) pad_nil)))))) pab_nil)) pad_nil))))
      (pssd_cons (psd_set (k := .va) (i := 4) nd rfl (by first | exact Or.inl rfl | exact Or.inr rfl) (pp_of (pfd_lst (pad_cons (ppd_callK k_fewest_changes rfl hr (by omega) (by rfl) (pad_cons (ppd_var (pv 1)) pad_nil)) (pad_cons (ppd_callK k_law_heard rfl hr (by omega) (by rfl) (pad_cons ppd_int (pad_cons (ppd_var (pv 1)) pad_nil))) (pad_cons (ppd_callK k_law_heard rfl hr (by omega) (by rfl) (pad_cons ppd_int (pad_cons (ppd_var (pv 1)) pad_nil))) (pad_cons (ppd_callK k_fewest_changes rfl hr (by omega) (by rfl) (pad_cons (ppd_var (pv 2)) pad_nil)) (pad_cons (ppd_callK k_law_heard rfl hr (by omega) (by rfl) (pad_cons ppd_int (pad_cons (ppd_var (pv 2)) pad_nil))) pad_nil))))))))
      (pssd_cons (psd_set (k := .va) (i := 4) nd rfl (by first | exact Or.inl rfl | exact Or.inr rfl) (ppd_add (pb_of (ppd_var (pv 4))) (pb_of (pp_of (pfd_lst (pad_cons (ppd_callK k_law_heard rfl hr (by omega) (by rfl) (pad_cons ppd_int (pad_cons (ppd_var (pv 2)) pad_nil))) pad_nil))))))
      (pssd_cons (psd_set (k := .va) (i := 4) nd rfl (by first | exact Or.inl rfl | exact Or.inr rfl) (ppd_add (pb_of (ppd_var (pv 4))) (pb_of (pp_of (pfd_lst (pad_cons (ppd_callK k_sure_change rfl hr (by omega) (by rfl) (pad_cons (ppd_var (pv 2)) (pad_cons ppd_int (pad_cons ppd_int pad_nil)))) (pad_cons (ppd_callK k_sure_change rfl hr (by omega) (by rfl) (pad_cons (ppd_var (pv 2)) (pad_cons ppd_int (pad_cons ppd_int pad_nil)))) (pad_cons (ppd_callK k_could_change rfl hr (by omega) (by rfl) (pad_cons (ppd_var (pv 2)) (pad_cons ppd_int pad_nil))) pad_nil))))))))
      (pssd_one (psd_ret (ppd_callK k_law_same rfl hr (by omega) (by rfl) (pad_cons (ppd_var (pv 4)) (pad_cons (pp_of (pfd_lst (pad_cons ppd_int (pad_cons (ppd_tup (pad_cons ppd_int pad_nil)) (pad_cons (ppd_tup (pad_cons ppd_int pad_nil)) (pad_cons ppd_int (pad_cons (ppd_tup (pad_cons ppd_int (pad_cons ppd_int pad_nil))) (pad_cons (ppd_tup (pad_cons ppd_int (pad_cons ppd_int pad_nil))) (pad_cons ppd_bl (pad_cons ppd_bl (pad_cons ppd_bl pad_nil))))))))))) pad_nil)))))))))))
end Pd
end
section
set_option Elab.async false
set_option linter.all false
set_option maxRecDepth 100000
set_option maxHeartbeats 4000000
/-! PX1: every def keeps its promise (printed by genx.py). -/
namespace Pd
open PySem PyProof.Rows L2 RZ Ma Mc
open PySem.Spec hiding Row
/-- the defs of the text -/
structure Dfs (K : PySem.W.Frag) (mg : Str → Option Value) : Prop where
  tupled : Dfn K mg "tupled" 7 ["thing"]
  part_of : Dfn K mg "part_of" 8 ["top", "bottom"]
  part_plus : Dfn K mg "part_plus" 9 ["one", "other"]
  part_minus : Dfn K mg "part_minus" 10 ["one"]
  part_times : Dfn K mg "part_times" 11 ["one", "other"]
  part_over : Dfn K mg "part_over" 12 ["one", "other"]
  cells_plus : Dfn K mg "cells_plus" 13 ["row", "other"]
  cells_times : Dfn K mg "cells_times" 14 ["row", "much"]
  cells_none : Dfn K mg "cells_none" 15 ["size"]
  are_none : Dfn K mg "are_none" 16 ["row"]
  unit_row : Dfn K mg "unit_row" 18 ["long", "place"]
  lead_of : Dfn K mg "lead_of" 19 ["row"]
  lessened_by : Dfn K mg "lessened_by" 20 ["rows", "row"]
  reduced_rows : Dfn K mg "reduced_rows" 21 ["rows"]
  zeros_of : Dfn K mg "zeros_of" 22 ["rows", "long"]
  columns : Dfn K mg "columns" 24 ["noted"]
  next_columns : Dfn K mg "next_columns" 25 ["noted"]
  weighed : Dfn K mg "weighed" 26 ["weights", "rows", "size"]
  clash_in : Dfn K mg "clash_in" 27 ["size", "many", "given", "later"]
  found_clash : Dfn K mg "found_clash" 28 ["noted"]
  could_be : Dfn K mg "could_be" 29 ["noted"]
  part_noted : Dfn K mg "part_noted" 31 ["piece", "first", "last"]
  fits_between : Dfn K mg "fits_between" 32 ["piece", "first", "last"]
  part_fits : Dfn K mg "part_fits" 33 ["piece", "first", "last"]
  front_ends : Dfn K mg "front_ends" 34 ["piece", "size"]
  back_starts : Dfn K mg "back_starts" 35 ["piece", "size"]
  fewest_changes : Dfn K mg "fewest_changes" 36 ["piece"]
  latest_changes : Dfn K mg "latest_changes" 37 ["piece"]
  earliest_changes : Dfn K mg "earliest_changes" 38 ["piece"]
  could_change : Dfn K mg "could_change" 39 ["piece", "tick"]
  parts_around : Dfn K mg "parts_around" 40 ["ends", "starts", "low", "high", "size"]
  sure_change : Dfn K mg "sure_change" 41 ["piece", "first", "last"]
  law_box : Dfn K mg "_law_box" 43 ["_law_script", "_law_k"]
  law_take : Dfn K mg "_law_take" 44 ["_law_tin", "_law_below_so"]
  law_cells : Dfn K mg "_law_cells" 45 ["_law_script", "_law_most_so"]
  law_of : Dfn K mg "_law_of" 46 ["_law_tin", "_law_goods_so"]
  law_lists : Dfn K mg "_law_lists" 47 ["_law_matter"]
  law_same : Dfn K mg "_law_same" 48 ["_law_got", "_law_due"]
  law_gcd : Dfn K mg "_law_gcd" 49 ["_law_one_so", "_law_two_so"]
  law_fr : Dfn K mg "_law_fr" 50 ["_law_top_so", "_law_base_so"]
  law_sum : Dfn K mg "_law_sum" 51 ["_law_one_so", "_law_two_so"]
  law_less_by : Dfn K mg "_law_less_by" 52 ["_law_one_so", "_law_two_so"]
  law_mul : Dfn K mg "_law_mul" 53 ["_law_one_so", "_law_two_so"]
  law_dot : Dfn K mg "_law_dot" 54 ["_law_one_so", "_law_two_so"]
  law_both_rows : Dfn K mg "_law_both_rows" 55 ["_law_one_so", "_law_two_so"]
  law_next : Dfn K mg "_law_next" 56 ["_law_table_so", "_law_row_so"]
  law_steps : Dfn K mg "_law_steps" 57 ["_law_rows_so"]
  law_over_any : Dfn K mg "_law_over_any" 58 ["_law_one_so", "_law_two_so"]
  law_struck : Dfn K mg "_law_struck" 59 ["_law_row_so", "_law_head_so", "_law_k"]
  law_rank : Dfn K mg "_law_rank" 60 ["_law_rows_so"]
  law_idle : Dfn K mg "_law_idle" 61 ["_law_size_so"]
  law_subsets : Dfn K mg "_law_subsets" 62 ["_law_things_so"]
  law_small : Dfn K mg "_law_small" 63 ["_law_tin"]
  law_row : Dfn K mg "_law_row" 64 ["_law_tin", "_law_size_so"]
  law_on : Dfn K mg "_law_on" 65 ["_law_machine_so", "_law_cells_so", "_law_inputs_so"]
  law_goes : Dfn K mg "_law_goes" 66 ["_law_columns_so", "_law_nexts_so"]
  law_whole : Dfn K mg "_law_whole" 67 ["_law_tin"]
  law_machine : Dfn K mg "_law_machine" 68 ["_law_tin", "_law_n_so", "_law_m_so"]
  law_given : Dfn K mg "_law_given" 69 ["_law_tin", "_law_m_so", "_law_ticks_so"]
  law_ticks_of : Dfn K mg "_law_ticks_of" 70 ["_law_piece_so"]
  law_fit_parts : Dfn K mg "_law_fit_parts" 71 ["_law_piece_so"]
  law_lots_of_changes : Dfn K mg "_law_lots_of_changes" 72 ["_law_fits_so", "_law_many_so"]
  law_shifted : Dfn K mg "_law_shifted" 73 ["_law_tin", "_law_machine_so"]
  law_drawn_piece : Dfn K mg "_law_drawn_piece" 74 ["_law_tin"]
  law_heard : Dfn K mg "_law_heard" 75 ["_law_door_so", "_law_piece_so"]
  law_refused : Dfn K mg "_law_refused" 76 ["_law_door_so", "_law_piece_so"]
  law_piece_right : Dfn K mg "_law_piece_right" 77 ["_law_tin", "_law_piece_so"]
  law_by_hand_right : Dfn K mg "_law_by_hand_right" 78 []
section
variable {P : Program} {w : World} {K : PySem.W.Frag} {mg : Str → Option Value} {base : Heap}
theorem kn_no {x : Str} {i : Nat} {ps : List Str} (D : Dfn K mg x i ps) : Kn P w K mg base x 0 ps sp_no := by
  obtain ⟨f, fd, F, hm, hb⟩ := D
  exact ⟨f, fd, ⟨fun vs H Q E ⟨_, _, _, _, _, _, _, _, h, _⟩ => h.elim, fun A outer s H args us vs Q E hr e0 b r ⟨_, _, _, _, _, _, _, _, h, _⟩ => h.elim⟩, hm, F.kp, hb⟩
theorem kr_tupled (F : Fr0 K mg) (D : Dfn K mg "tupled" 7 ["thing"]) : ∀ n : Nat, Kn P w K mg base "tupled" (n + 1) ["thing"] (sp_tupled n)
  | 0 => d_tupled F D (kn_no D) (Nat.le_refl _) fun ds c Q _ h => hs_tupled0 ds c Q h
  | n + 1 => d_tupled F D (kr_tupled F D n) (Nat.le_refl _) fun ds c Q _ h => hs_tupled n ds c Q h
theorem kr_law_lists (F : Fr0 K mg) (D : Dfn K mg "_law_lists" 47 ["_law_matter"]) : ∀ n : Nat, Kn P w K mg base "_law_lists" (n + 1) ["_law_matter"] (sp_law_lists n)
  | 0 => d_law_lists F D (kn_no D) (Nat.le_refl _) fun ds c Q _ h => hs_law_lists0 ds c Q h
  | n + 1 => d_law_lists F D (kr_law_lists F D n) (Nat.le_refl _) fun ds c Q _ h => hs_law_lists n ds c Q h
theorem kr_law_same (F : Fr0 K mg) (D : Dfn K mg "_law_same" 48 ["_law_got", "_law_due"]) : ∀ n : Nat, Kn P w K mg base "_law_same" (n + 1) ["_law_got", "_law_due"] (sp_law_same n)
  | 0 => d_law_same F D (kn_no D) (Nat.le_refl _) fun ds c Q _ h => hs_law_same0 ds c Q h
  | n + 1 => d_law_same F D (kr_law_same F D n) (Nat.le_refl _) fun ds c Q _ h => hs_law_same n ds c Q h
set_option maxHeartbeats 0 in
theorem all_k {C : Addr} (F : Fr0 K mg) (U : ExU K mg C) (D : Dfs K mg) {f : Addr} {fd : FuncData} (Fn : Fun K "law" "law" (top 79) f fd) : FnOk P w K mg base CX0 19 f fd ["_law_script"] (spLaw K) := by
  have k_part_of : Kn P w K mg base "part_of" 1 ["top", "bottom"] sp_part_of := d_part_of (k := 0) F D.part_of  fun ds c Q _ h => hs_part_of ds c Q h
  have k_part_minus : Kn P w K mg base "part_minus" 1 ["one"] sp_part_minus := d_part_minus (k := 0) F D.part_minus  fun ds c Q _ h => hs_part_minus ds c Q h
  have k_cells_none : Kn P w K mg base "cells_none" 1 ["size"] sp_cells_none := d_cells_none (k := 0) F D.cells_none  fun ds c Q _ h => hs_cells_none ds c Q h
  have k_are_none : Kn P w K mg base "are_none" 1 ["row"] sp_are_none := d_are_none (k := 0) F D.are_none  fun ds c Q _ h => hs_are_none ds c Q h
  have k_unit_row : Kn P w K mg base "unit_row" 1 ["long", "place"] sp_unit_row := d_unit_row (k := 0) F D.unit_row  fun ds c Q _ h => hs_unit_row ds c Q h
  have k_lead_of : Kn P w K mg base "lead_of" 1 ["row"] sp_lead_of := d_lead_of (k := 0) F D.lead_of  fun ds c Q _ h => hs_lead_of ds c Q h
  have k_part_noted : Kn P w K mg base "part_noted" 1 ["piece", "first", "last"] sp_part_noted := d_part_noted (k := 0) F D.part_noted  fun ds c Q _ h => hs_part_noted ds c Q h
  have k_parts_around : Kn P w K mg base "parts_around" 1 ["ends", "starts", "low", "high", "size"] sp_parts_around := d_parts_around (k := 0) F D.parts_around  fun ds c Q _ h => hs_parts_around ds c Q h
  have k_law_take : Kn P w K mg base "_law_take" 1 ["_law_tin", "_law_below_so"] sp_law_take := d_law_take F D.law_take
  have k_law_gcd : Kn P w K mg base "_law_gcd" 1 ["_law_one_so", "_law_two_so"] sp_law_gcd := d_law_gcd (k := 0) F D.law_gcd  fun ds c Q _ h => hs_law_gcd ds c Q h
  have k_law_idle : Kn P w K mg base "_law_idle" 1 ["_law_size_so"] sp_law_idle := d_law_idle (k := 0) F D.law_idle  fun ds c Q _ h => hs_law_idle ds c Q h
  have k_law_subsets : Kn P w K mg base "_law_subsets" 1 ["_law_things_so"] sp_law_subsets := d_law_subsets (k := 0) F D.law_subsets  fun ds c Q _ h => hs_law_subsets ds c Q h
  have k_law_ticks_of : Kn P w K mg base "_law_ticks_of" 1 ["_law_piece_so"] sp_law_ticks_of := d_law_ticks_of (k := 0) F D.law_ticks_of  fun ds c Q _ h => hs_law_ticks_of ds c Q h
  have k_law_box := d_law_box (P := P) (w := w) (base := base) F D.law_box
  have k_law_cells := d_law_cells (P := P) (w := w) (base := base) F D.law_cells
  have k_part_plus : Kn P w K mg base "part_plus" 2 ["one", "other"] sp_part_plus := d_part_plus (k := 1) F D.part_plus k_part_of (by decide) fun ds c Q _ h => hs_part_plus ds c Q h
  have k_part_times : Kn P w K mg base "part_times" 2 ["one", "other"] sp_part_times := d_part_times (k := 1) F D.part_times k_part_of (by decide) fun ds c Q _ h => hs_part_times ds c Q h
  have k_part_over : Kn P w K mg base "part_over" 2 ["one", "other"] sp_part_over := d_part_over (k := 1) F D.part_over k_part_of (by decide) fun ds c Q _ h => hs_part_over ds c Q h
  have k_law_of : Kn P w K mg base "_law_of" 2 ["_law_tin", "_law_goods_so"] sp_law_of := d_law_of (k := 1) F D.law_of k_law_take (by decide) fun ds c Q _ h => hs_law_of ds c Q h
  have k_law_fr : Kn P w K mg base "_law_fr" 2 ["_law_top_so", "_law_base_so"] sp_law_fr := d_law_fr (k := 1) F D.law_fr k_law_gcd (by decide) fun ds c Q _ h => hs_law_fr ds c Q h
  have k_law_lots_of_changes : Kn P w K mg base "_law_lots_of_changes" 2 ["_law_fits_so", "_law_many_so"] sp_law_lots_of_changes := d_law_lots_of_changes (k := 1) F D.law_lots_of_changes k_law_subsets (by decide) fun ds c Q _ h => hs_law_lots_of_changes ds c Q h
  have k_cells_plus : Kn P w K mg base "cells_plus" 3 ["row", "other"] sp_cells_plus := d_cells_plus (k := 2) F D.cells_plus k_part_plus (by decide) fun ds c Q _ h => hs_cells_plus ds c Q h
  have k_cells_times : Kn P w K mg base "cells_times" 3 ["row", "much"] sp_cells_times := d_cells_times (k := 2) F D.cells_times k_part_times (by decide) fun ds c Q _ h => hs_cells_times ds c Q h
  have k_law_sum : Kn P w K mg base "_law_sum" 3 ["_law_one_so", "_law_two_so"] sp_law_sum := d_law_sum (k := 2) F D.law_sum k_law_fr (by decide) fun ds c Q _ h => hs_law_sum ds c Q h
  have k_law_less_by : Kn P w K mg base "_law_less_by" 3 ["_law_one_so", "_law_two_so"] sp_law_less_by := d_law_less_by (k := 2) F D.law_less_by k_law_fr (by decide) fun ds c Q _ h => hs_law_less_by ds c Q h
  have k_law_mul : Kn P w K mg base "_law_mul" 3 ["_law_one_so", "_law_two_so"] sp_law_mul := d_law_mul (k := 2) F D.law_mul k_law_fr (by decide) fun ds c Q _ h => hs_law_mul ds c Q h
  have k_law_over_any : Kn P w K mg base "_law_over_any" 3 ["_law_one_so", "_law_two_so"] sp_law_over_any := d_law_over_any (k := 2) F D.law_over_any k_law_fr (by decide) fun ds c Q _ h => hs_law_over_any ds c Q h
  have k_law_small : Kn P w K mg base "_law_small" 3 ["_law_tin"] sp_law_small := d_law_small (k := 2) F D.law_small k_law_of (by decide) fun ds c Q _ h => hs_law_small ds c Q h
  have k_law_whole : Kn P w K mg base "_law_whole" 3 ["_law_tin"] sp_law_whole := d_law_whole (k := 2) F D.law_whole k_law_of (by decide) fun ds c Q _ h => hs_law_whole ds c Q h
  have k_lessened_by : Kn P w K mg base "lessened_by" 4 ["rows", "row"] sp_lessened_by := d_lessened_by (k := 3) F D.lessened_by k_lead_of (by decide) k_cells_plus (by decide) k_cells_times (by decide) k_part_minus (by decide) fun ds c Q _ h => hs_lessened_by ds c Q h
  have k_weighed : Kn P w K mg base "weighed" 4 ["weights", "rows", "size"] sp_weighed := d_weighed (k := 3) F D.weighed k_cells_none (by decide) k_cells_plus (by decide) k_cells_times (by decide) fun ds c Q _ h => hs_weighed ds c Q h
  have k_law_dot : Kn P w K mg base "_law_dot" 4 ["_law_one_so", "_law_two_so"] sp_law_dot := d_law_dot (k := 3) F D.law_dot k_law_sum (by decide) k_law_mul (by decide) fun ds c Q _ h => hs_law_dot ds c Q h
  have k_law_both_rows : Kn P w K mg base "_law_both_rows" 4 ["_law_one_so", "_law_two_so"] sp_law_both_rows := d_law_both_rows (k := 3) F D.law_both_rows k_law_sum (by decide) fun ds c Q _ h => hs_law_both_rows ds c Q h
  have k_law_struck : Kn P w K mg base "_law_struck" 4 ["_law_row_so", "_law_head_so", "_law_k"] sp_law_struck := d_law_struck (k := 3) F D.law_struck k_law_less_by (by decide) k_law_mul (by decide) fun ds c Q _ h => hs_law_struck ds c Q h
  have k_law_row : Kn P w K mg base "_law_row" 4 ["_law_tin", "_law_size_so"] sp_law_row := d_law_row (k := 3) F D.law_row k_law_small (by decide) fun ds c Q _ h => hs_law_row ds c Q h
  have k_law_given : Kn P w K mg base "_law_given" 4 ["_law_tin", "_law_m_so", "_law_ticks_so"] sp_law_given := d_law_given (k := 3) F D.law_given k_law_take (by decide) k_law_idle (by decide) k_law_whole (by decide) fun ds c Q _ h => hs_law_given ds c Q h
  have k_law_shifted : Kn P w K mg base "_law_shifted" 4 ["_law_tin", "_law_machine_so"] sp_law_shifted := d_law_shifted (k := 3) F D.law_shifted k_law_sum (by decide) k_law_of (by decide)
  have k_law_machine : Kn P w K mg base "_law_machine" 4 ["_law_tin", "_law_n_so", "_law_m_so"] sp_law_machine := d_law_machine (k := 3) F D.law_machine k_law_take (by decide) k_law_of (by decide) k_law_whole (by decide)
  have k_reduced_rows : Kn P w K mg base "reduced_rows" 5 ["rows"] sp_reduced_rows := d_reduced_rows (k := 4) F D.reduced_rows k_lessened_by (by decide) k_are_none (by decide) k_cells_times (by decide) k_part_over (by decide) k_lead_of (by decide) fun ds c Q _ h => hs_reduced_rows ds c Q h
  have k_law_next : Kn P w K mg base "_law_next" 5 ["_law_table_so", "_law_row_so"] sp_law_next := d_law_next (k := 4) F D.law_next k_law_dot (by decide) fun ds c Q _ h => hs_law_next ds c Q h
  have k_law_steps : Kn P w K mg base "_law_steps" 5 ["_law_rows_so"] sp_law_steps := d_law_steps (k := 4) F D.law_steps k_law_over_any (by decide) k_law_struck (by decide) fun ds c Q _ h => hs_law_steps ds c Q h
  have k_law_rank : Kn P w K mg base "_law_rank" 6 ["_law_rows_so"] sp_law_rank := d_law_rank (k := 5) F D.law_rank k_law_steps (by decide) fun ds c Q _ h => hs_law_rank ds c Q h
  have k_law_on : Kn P w K mg base "_law_on" 6 ["_law_machine_so", "_law_cells_so", "_law_inputs_so"] sp_law_on := d_law_on (k := 5) F D.law_on k_law_both_rows (by decide) k_law_next (by decide) fun ds c Q _ h => hs_law_on ds c Q h
  have k_tupled : Kn P w K mg base "tupled" 7 ["thing"] (sp_tupled 6) := kr_tupled F D.tupled 6
  have k_law_lists : Kn P w K mg base "_law_lists" 7 ["_law_matter"] (sp_law_lists 6) := kr_law_lists F D.law_lists 6
  have k_law_same : Kn P w K mg base "_law_same" 7 ["_law_got", "_law_due"] (sp_law_same 6) := kr_law_same F D.law_same 6
  have k_law_goes : Kn P w K mg base "_law_goes" 7 ["_law_columns_so", "_law_nexts_so"] sp_law_goes := d_law_goes (k := 6) F D.law_goes k_law_rank (by decide) fun ds c Q _ h => hs_law_goes ds c Q h
  have k_law_drawn_piece : Kn P w K mg base "_law_drawn_piece" 7 ["_law_tin"] sp_law_drawn_piece := d_law_drawn_piece (k := 6) F D.law_drawn_piece k_law_of (by decide) k_law_shifted (by decide) k_law_machine (by decide) k_law_row (by decide) k_law_given (by decide) k_law_take (by decide) k_law_on (by decide) k_law_whole (by decide) fun ds c Q _ h => hs_law_drawn_piece ds c Q h
  have k_zeros_of : Kn P w K mg base "zeros_of" 8 ["rows", "long"] sp_zeros_of := d_zeros_of (k := 7) F D.zeros_of k_reduced_rows (by decide) k_tupled (by decide) k_lead_of (by decide) k_unit_row (by decide) k_part_minus (by decide) fun ds c Q _ h => hs_zeros_of (m := 3) ds c Q h
  have k_columns : Kn P w K mg base "columns" 8 ["noted"] sp_columns := d_columns (k := 7) F D.columns k_tupled (by decide) fun ds c Q _ h => hs_columns (k := 0) ds c Q h
  have k_next_columns : Kn P w K mg base "next_columns" 8 ["noted"] sp_next_columns := d_next_columns (k := 7) F D.next_columns k_tupled (by decide) fun ds c Q _ h => hs_next_columns (k := 0) ds c Q h
  have k_law_fit_parts : Kn P w K mg base "_law_fit_parts" 8 ["_law_piece_so"] sp_law_fit_parts := d_law_fit_parts (k := 7) F D.law_fit_parts k_law_ticks_of (by decide) k_law_goes (by decide) fun ds c Q _ h => hs_law_fit_parts ds c Q h
  have k_clash_in : Kn P w K mg base "clash_in" 9 ["size", "many", "given", "later"] sp_clash_in := d_clash_in (k := 8) F D.clash_in k_zeros_of (by decide) k_are_none (by decide) k_weighed (by decide) fun ds c Q _ h => hs_clash_in ds c Q h
  have k_found_clash : Kn P w K mg base "found_clash" 10 ["noted"] sp_found_clash := d_found_clash (k := 9) F D.found_clash k_clash_in (by decide) k_columns (by decide) k_next_columns (by decide) fun ds c Q _ h => hs_found_clash ds c Q h
  have k_could_be : Kn P w K mg base "could_be" 11 ["noted"] sp_could_be := d_could_be (k := 10) F D.could_be k_found_clash (by decide) fun ds c Q _ h => hs_could_be ds c Q h
  have k_fits_between : Kn P w K mg base "fits_between" 12 ["piece", "first", "last"] sp_fits_between := d_fits_between (k := 11) F D.fits_between k_could_be (by decide) k_part_noted (by decide) fun ds c Q _ h => hs_fits_between ds c Q h
  have k_part_fits : Kn P w K mg base "part_fits" 13 ["piece", "first", "last"] sp_part_fits := d_part_fits (k := 12) F D.part_fits k_tupled (by decide) k_fits_between (by decide) fun ds c Q _ h => hs_part_fits (k := 2) ds c Q h
  have k_front_ends : Kn P w K mg base "front_ends" 13 ["piece", "size"] sp_front_ends := d_front_ends (k := 12) F D.front_ends k_fits_between (by decide) fun ds c Q _ h => hs_front_ends ds c Q h
  have k_back_starts : Kn P w K mg base "back_starts" 13 ["piece", "size"] sp_back_starts := d_back_starts (k := 12) F D.back_starts k_fits_between (by decide) fun ds c Q _ h => hs_back_starts ds c Q h
  have k_fewest_changes : Kn P w K mg base "fewest_changes" 14 ["piece"] sp_fewest_changes := d_fewest_changes (k := 13) F D.fewest_changes k_tupled (by decide) k_front_ends (by decide) fun ds c Q _ h => hs_fewest_changes (k := 2) ds c Q h
  have k_latest_changes : Kn P w K mg base "latest_changes" 14 ["piece"] sp_latest_changes := d_latest_changes (k := 13) F D.latest_changes k_tupled (by decide) k_front_ends (by decide) fun ds c Q _ h => hs_latest_changes (k := 2) ds c Q h
  have k_sure_change : Kn P w K mg base "sure_change" 14 ["piece", "first", "last"] sp_sure_change := d_sure_change (k := 13) F D.sure_change k_tupled (by decide) k_front_ends (by decide) k_back_starts (by decide) k_parts_around (by decide) k_fits_between (by decide) fun ds c Q _ h => hs_sure_change (k := 2) ds c Q h
  have x_latest_changes : KnX P w K mg base C "latest_changes" 14 ["piece"] spx_one := kx_latest (k := 13) F U D.latest_changes (i := 2) k_tupled (by decide) k_front_ends (by decide)
  have x_sure_change : KnX P w K mg base C "sure_change" 14 ["piece", "first", "last"] spx_sure := kx_sure (k := 13) F U D.sure_change (i := 2) k_tupled (by decide) k_front_ends (by decide)
  have k_earliest_changes : Kn P w K mg base "earliest_changes" 15 ["piece"] sp_earliest_changes := d_earliest_changes (k := 14) F D.earliest_changes k_tupled (by decide) k_fewest_changes (by decide) k_back_starts (by decide) fun ds c Q _ h => hs_earliest_changes (k := 2) ds c Q h
  have x_earliest_changes : KnX P w K mg base C "earliest_changes" 15 ["piece"] spx_one := kx_earliest (k := 14) F U D.earliest_changes (i := 2) k_tupled (by decide) k_fewest_changes (by decide)
  have k_could_change : Kn P w K mg base "could_change" 16 ["piece", "tick"] sp_could_change := d_could_change (k := 15) F D.could_change k_earliest_changes (by decide) k_latest_changes (by decide) fun ds c Q _ h => hs_could_change ds c Q h
  have k_law_heard : Kn P w K mg base "_law_heard" 16 ["_law_door_so", "_law_piece_so"] sp_law_heard := d_law_heard (k := 15) F U D.law_heard k_earliest_changes (by decide) k_latest_changes (by decide) x_earliest_changes (by decide) x_latest_changes (by decide)
  have x_could_change : KnX P w K mg base C "could_change" 16 ["piece", "tick"] spx_could := kx_could (k := 15) F D.could_change x_earliest_changes (by decide)
  have k_law_refused : Kn P w K mg base "_law_refused" 17 ["_law_door_so", "_law_piece_so"] sp_law_refused := d_law_refused (k := 16) F U D.law_refused x_could_change (by decide) x_sure_change (by decide)
  have k_law_by_hand_right : Kn P w K mg base "_law_by_hand_right" 17 [] sp_law_by_hand_right := d_law_by_hand_right (k := 16) F D.law_by_hand_right k_fewest_changes (by decide) k_law_heard (by decide) k_sure_change (by decide) k_could_change (by decide) k_law_same (by decide) fun ds c Q _ h => hs_law_by_hand_right ds c Q h
  have k_law_piece_right : Kn P w K mg base "_law_piece_right" 18 ["_law_tin", "_law_piece_so"] sp_law_piece_right := d_law_piece_right (k := 17) F D.law_piece_right k_law_fit_parts (by decide) k_law_lists (by decide) k_law_same (by decide) k_part_fits (by decide) k_law_lots_of_changes (by decide) k_fewest_changes (by decide) k_law_heard (by decide) k_law_refused (by decide) k_could_change (by decide) k_law_take (by decide) k_sure_change (by decide) fun ds c Q _ h => hs_law_piece_right ds c Q h
  exact d_law (k := 18) F Fn k_law_by_hand_right (by decide) k_law_cells (by decide) k_law_box (by decide) k_law_piece_right (by decide) k_law_drawn_piece (by decide)
end
end Pd
end
section
set_option Elab.async false
set_option linter.all false
set_option maxRecDepth 100000
set_option maxHeartbeats 4000000
/-! PX2: the head, the end (printed by genf.py). -/
namespace Pd
open PySem PyProof.Rows L2 RZ Ma Mc
open PySem.Spec hiding Row
section
variable {K : PySem.W.Frag} {h : Heap} {mg : Str → Option Value}
theorem fr_facts (X : K.In h) (G : h.Ns mainGlobals mg) (c : He.SaysD Hd.fa Hd.fn K) (x : Hd.exK K = true) : Fr0 K mg := by
  have x1 : (He.tupB K "NONE" [.int 0, .int 1] && He.tupB K "FULL" [.int 1, .int 1] && He.eqO (PySem.W.nsIn K mainGlobals "gcd") (some (some (.builtin "math.gcd")))) = true := x
  rw [Bool.and_eq_true, Bool.and_eq_true] at x1
  have e_len := He.free_ok X G (c.fact 9 (f := .free "len") rfl)
  have e_tuple := He.free_ok X G (c.fact 16 (f := .free "tuple") rfl)
  have e_list := He.free_ok X G (c.fact 10 (f := .free "list") rfl)
  have e_range := He.free_ok X G (c.fact 13 (f := .free "range") rfl)
  have e_zip := He.free_ok X G (c.fact 17 (f := .free "zip") rfl)
  have e_enumerate := He.free_ok X G (c.fact 6 (f := .free "enumerate") rfl)
  have e_sorted := He.free_ok X G (c.fact 14 (f := .free "sorted") rfl)
  have e_isinstance := He.free_ok X G (c.fact 8 (f := .free "isinstance") rfl)
  have e_abs := He.free_ok X G (c.fact 2 (f := .free "abs") rfl)
  have e_int := He.free_ok X G (c.fact 7 (f := .free "int") rfl)
  have e_min := He.free_ok X G (c.fact 12 (f := .free "min") rfl)
  have e_max := He.free_ok X G (c.fact 11 (f := .free "max") rfl)
  have e_all := He.free_ok X G (c.fact 3 (f := .free "all") rfl)
  have e_any := He.free_ok X G (c.fact 4 (f := .free "any") rfl)
  have e_bool := He.free_ok X G (c.fact 5 (f := .free "bool") rfl)
  have e_str := He.free_ok X G (c.fact 15 (f := .free "str") rfl)
  exact ⟨e_len, e_tuple, e_list, e_range, e_zip, e_enumerate, e_sorted, e_isinstance, e_abs, e_int, e_min, e_max, e_all, e_any, e_bool, e_str, PySem.W.mg_of X G (He.eqO_ok x1.2), ⟨_, He.glo_ok X G (c.fact 20 (f := .glo "NONE") rfl), fun H => He.tupB_ok x1.1.1 H⟩, ⟨_, He.glo_ok X G (c.fact 21 (f := .glo "FULL") rfl), fun H => He.tupB_ok x1.1.2 H⟩⟩
theorem ex_facts (X : K.In h) (G : h.Ns mainGlobals mg) (c : He.SaysD Hd.fa Hd.fn K) : ExU K mg (He.ga K "Unfit") := by
  obtain ⟨a1, a2, a3, a4⟩ := He.exc_ok (c.fact 18 (f := .exc "Unfit") rfl)
  exact ⟨He.glo_ok X G (c.fact 22 (f := .glo "Unfit") rfl), a1, a2, a3, a4, He.exm_ok (c.fact 19 (f := .exm "Unfit" "Unfit" true) rfl)⟩
theorem df_tupled (X : K.In h) (G : h.Ns mainGlobals mg) (c : He.SaysD Hd.fa Hd.fn K) : Dfn K mg "tupled" 7 ["thing"] := by
  obtain ⟨fd, FD⟩ := c.def_ 0 (d := Hd.dd "tupled" 7) rfl
  have F := fun_of_d (x := "tupled") (i := 7) FD
  exact ⟨_, fd, F, He.glo_ok X G (c.fact 23 (f := .glo "tupled") rfl), F.binds fun _ _ _ _ _ _ us hl => match us, hl with | [_], _ => rfl⟩
theorem df_part_of (X : K.In h) (G : h.Ns mainGlobals mg) (c : He.SaysD Hd.fa Hd.fn K) : Dfn K mg "part_of" 8 ["top", "bottom"] := by
  obtain ⟨fd, FD⟩ := c.def_ 1 (d := Hd.dd "part_of" 8) rfl
  have F := fun_of_d (x := "part_of") (i := 8) FD
  exact ⟨_, fd, F, He.glo_ok X G (c.fact 24 (f := .glo "part_of") rfl), F.binds fun _ _ _ _ _ _ us hl => match us, hl with | [_, _], _ => rfl⟩
theorem df_part_plus (X : K.In h) (G : h.Ns mainGlobals mg) (c : He.SaysD Hd.fa Hd.fn K) : Dfn K mg "part_plus" 9 ["one", "other"] := by
  obtain ⟨fd, FD⟩ := c.def_ 2 (d := Hd.dd "part_plus" 9) rfl
  have F := fun_of_d (x := "part_plus") (i := 9) FD
  exact ⟨_, fd, F, He.glo_ok X G (c.fact 25 (f := .glo "part_plus") rfl), F.binds fun _ _ _ _ _ _ us hl => match us, hl with | [_, _], _ => rfl⟩
theorem df_part_minus (X : K.In h) (G : h.Ns mainGlobals mg) (c : He.SaysD Hd.fa Hd.fn K) : Dfn K mg "part_minus" 10 ["one"] := by
  obtain ⟨fd, FD⟩ := c.def_ 3 (d := Hd.dd "part_minus" 10) rfl
  have F := fun_of_d (x := "part_minus") (i := 10) FD
  exact ⟨_, fd, F, He.glo_ok X G (c.fact 26 (f := .glo "part_minus") rfl), F.binds fun _ _ _ _ _ _ us hl => match us, hl with | [_], _ => rfl⟩
theorem df_part_times (X : K.In h) (G : h.Ns mainGlobals mg) (c : He.SaysD Hd.fa Hd.fn K) : Dfn K mg "part_times" 11 ["one", "other"] := by
  obtain ⟨fd, FD⟩ := c.def_ 4 (d := Hd.dd "part_times" 11) rfl
  have F := fun_of_d (x := "part_times") (i := 11) FD
  exact ⟨_, fd, F, He.glo_ok X G (c.fact 27 (f := .glo "part_times") rfl), F.binds fun _ _ _ _ _ _ us hl => match us, hl with | [_, _], _ => rfl⟩
theorem df_part_over (X : K.In h) (G : h.Ns mainGlobals mg) (c : He.SaysD Hd.fa Hd.fn K) : Dfn K mg "part_over" 12 ["one", "other"] := by
  obtain ⟨fd, FD⟩ := c.def_ 5 (d := Hd.dd "part_over" 12) rfl
  have F := fun_of_d (x := "part_over") (i := 12) FD
  exact ⟨_, fd, F, He.glo_ok X G (c.fact 28 (f := .glo "part_over") rfl), F.binds fun _ _ _ _ _ _ us hl => match us, hl with | [_, _], _ => rfl⟩
theorem df_cells_plus (X : K.In h) (G : h.Ns mainGlobals mg) (c : He.SaysD Hd.fa Hd.fn K) : Dfn K mg "cells_plus" 13 ["row", "other"] := by
  obtain ⟨fd, FD⟩ := c.def_ 6 (d := Hd.dd "cells_plus" 13) rfl
  have F := fun_of_d (x := "cells_plus") (i := 13) FD
  exact ⟨_, fd, F, He.glo_ok X G (c.fact 29 (f := .glo "cells_plus") rfl), F.binds fun _ _ _ _ _ _ us hl => match us, hl with | [_, _], _ => rfl⟩
theorem df_cells_times (X : K.In h) (G : h.Ns mainGlobals mg) (c : He.SaysD Hd.fa Hd.fn K) : Dfn K mg "cells_times" 14 ["row", "much"] := by
  obtain ⟨fd, FD⟩ := c.def_ 7 (d := Hd.dd "cells_times" 14) rfl
  have F := fun_of_d (x := "cells_times") (i := 14) FD
  exact ⟨_, fd, F, He.glo_ok X G (c.fact 30 (f := .glo "cells_times") rfl), F.binds fun _ _ _ _ _ _ us hl => match us, hl with | [_, _], _ => rfl⟩
theorem df_cells_none (X : K.In h) (G : h.Ns mainGlobals mg) (c : He.SaysD Hd.fa Hd.fn K) : Dfn K mg "cells_none" 15 ["size"] := by
  obtain ⟨fd, FD⟩ := c.def_ 8 (d := Hd.dd "cells_none" 15) rfl
  have F := fun_of_d (x := "cells_none") (i := 15) FD
  exact ⟨_, fd, F, He.glo_ok X G (c.fact 31 (f := .glo "cells_none") rfl), F.binds fun _ _ _ _ _ _ us hl => match us, hl with | [_], _ => rfl⟩
theorem df_are_none (X : K.In h) (G : h.Ns mainGlobals mg) (c : He.SaysD Hd.fa Hd.fn K) : Dfn K mg "are_none" 16 ["row"] := by
  obtain ⟨fd, FD⟩ := c.def_ 9 (d := Hd.dd "are_none" 16) rfl
  have F := fun_of_d (x := "are_none") (i := 16) FD
  exact ⟨_, fd, F, He.glo_ok X G (c.fact 32 (f := .glo "are_none") rfl), F.binds fun _ _ _ _ _ _ us hl => match us, hl with | [_], _ => rfl⟩
theorem df_unit_row (X : K.In h) (G : h.Ns mainGlobals mg) (c : He.SaysD Hd.fa Hd.fn K) : Dfn K mg "unit_row" 18 ["long", "place"] := by
  obtain ⟨fd, FD⟩ := c.def_ 10 (d := Hd.dd "unit_row" 18) rfl
  have F := fun_of_d (x := "unit_row") (i := 18) FD
  exact ⟨_, fd, F, He.glo_ok X G (c.fact 33 (f := .glo "unit_row") rfl), F.binds fun _ _ _ _ _ _ us hl => match us, hl with | [_, _], _ => rfl⟩
theorem df_lead_of (X : K.In h) (G : h.Ns mainGlobals mg) (c : He.SaysD Hd.fa Hd.fn K) : Dfn K mg "lead_of" 19 ["row"] := by
  obtain ⟨fd, FD⟩ := c.def_ 11 (d := Hd.dd "lead_of" 19) rfl
  have F := fun_of_d (x := "lead_of") (i := 19) FD
  exact ⟨_, fd, F, He.glo_ok X G (c.fact 34 (f := .glo "lead_of") rfl), F.binds fun _ _ _ _ _ _ us hl => match us, hl with | [_], _ => rfl⟩
theorem df_lessened_by (X : K.In h) (G : h.Ns mainGlobals mg) (c : He.SaysD Hd.fa Hd.fn K) : Dfn K mg "lessened_by" 20 ["rows", "row"] := by
  obtain ⟨fd, FD⟩ := c.def_ 12 (d := Hd.dd "lessened_by" 20) rfl
  have F := fun_of_d (x := "lessened_by") (i := 20) FD
  exact ⟨_, fd, F, He.glo_ok X G (c.fact 35 (f := .glo "lessened_by") rfl), F.binds fun _ _ _ _ _ _ us hl => match us, hl with | [_, _], _ => rfl⟩
theorem df_reduced_rows (X : K.In h) (G : h.Ns mainGlobals mg) (c : He.SaysD Hd.fa Hd.fn K) : Dfn K mg "reduced_rows" 21 ["rows"] := by
  obtain ⟨fd, FD⟩ := c.def_ 13 (d := Hd.dd "reduced_rows" 21) rfl
  have F := fun_of_d (x := "reduced_rows") (i := 21) FD
  exact ⟨_, fd, F, He.glo_ok X G (c.fact 36 (f := .glo "reduced_rows") rfl), F.binds fun _ _ _ _ _ _ us hl => match us, hl with | [_], _ => rfl⟩
theorem df_zeros_of (X : K.In h) (G : h.Ns mainGlobals mg) (c : He.SaysD Hd.fa Hd.fn K) : Dfn K mg "zeros_of" 22 ["rows", "long"] := by
  obtain ⟨fd, FD⟩ := c.def_ 14 (d := Hd.dd "zeros_of" 22) rfl
  have F := fun_of_d (x := "zeros_of") (i := 22) FD
  exact ⟨_, fd, F, He.glo_ok X G (c.fact 37 (f := .glo "zeros_of") rfl), F.binds fun _ _ _ _ _ _ us hl => match us, hl with | [_, _], _ => rfl⟩
theorem df_columns (X : K.In h) (G : h.Ns mainGlobals mg) (c : He.SaysD Hd.fa Hd.fn K) : Dfn K mg "columns" 24 ["noted"] := by
  obtain ⟨fd, FD⟩ := c.def_ 15 (d := Hd.dd "columns" 24) rfl
  have F := fun_of_d (x := "columns") (i := 24) FD
  exact ⟨_, fd, F, He.glo_ok X G (c.fact 38 (f := .glo "columns") rfl), F.binds fun _ _ _ _ _ _ us hl => match us, hl with | [_], _ => rfl⟩
theorem df_next_columns (X : K.In h) (G : h.Ns mainGlobals mg) (c : He.SaysD Hd.fa Hd.fn K) : Dfn K mg "next_columns" 25 ["noted"] := by
  obtain ⟨fd, FD⟩ := c.def_ 16 (d := Hd.dd "next_columns" 25) rfl
  have F := fun_of_d (x := "next_columns") (i := 25) FD
  exact ⟨_, fd, F, He.glo_ok X G (c.fact 39 (f := .glo "next_columns") rfl), F.binds fun _ _ _ _ _ _ us hl => match us, hl with | [_], _ => rfl⟩
theorem df_weighed (X : K.In h) (G : h.Ns mainGlobals mg) (c : He.SaysD Hd.fa Hd.fn K) : Dfn K mg "weighed" 26 ["weights", "rows", "size"] := by
  obtain ⟨fd, FD⟩ := c.def_ 17 (d := Hd.dd "weighed" 26) rfl
  have F := fun_of_d (x := "weighed") (i := 26) FD
  exact ⟨_, fd, F, He.glo_ok X G (c.fact 40 (f := .glo "weighed") rfl), F.binds fun _ _ _ _ _ _ us hl => match us, hl with | [_, _, _], _ => rfl⟩
theorem df_clash_in (X : K.In h) (G : h.Ns mainGlobals mg) (c : He.SaysD Hd.fa Hd.fn K) : Dfn K mg "clash_in" 27 ["size", "many", "given", "later"] := by
  obtain ⟨fd, FD⟩ := c.def_ 18 (d := Hd.dd "clash_in" 27) rfl
  have F := fun_of_d (x := "clash_in") (i := 27) FD
  exact ⟨_, fd, F, He.glo_ok X G (c.fact 41 (f := .glo "clash_in") rfl), F.binds fun _ _ _ _ _ _ us hl => match us, hl with | [_, _, _, _], _ => rfl⟩
theorem df_found_clash (X : K.In h) (G : h.Ns mainGlobals mg) (c : He.SaysD Hd.fa Hd.fn K) : Dfn K mg "found_clash" 28 ["noted"] := by
  obtain ⟨fd, FD⟩ := c.def_ 19 (d := Hd.dd "found_clash" 28) rfl
  have F := fun_of_d (x := "found_clash") (i := 28) FD
  exact ⟨_, fd, F, He.glo_ok X G (c.fact 42 (f := .glo "found_clash") rfl), F.binds fun _ _ _ _ _ _ us hl => match us, hl with | [_], _ => rfl⟩
theorem df_could_be (X : K.In h) (G : h.Ns mainGlobals mg) (c : He.SaysD Hd.fa Hd.fn K) : Dfn K mg "could_be" 29 ["noted"] := by
  obtain ⟨fd, FD⟩ := c.def_ 20 (d := Hd.dd "could_be" 29) rfl
  have F := fun_of_d (x := "could_be") (i := 29) FD
  exact ⟨_, fd, F, He.glo_ok X G (c.fact 43 (f := .glo "could_be") rfl), F.binds fun _ _ _ _ _ _ us hl => match us, hl with | [_], _ => rfl⟩
theorem df_part_noted (X : K.In h) (G : h.Ns mainGlobals mg) (c : He.SaysD Hd.fa Hd.fn K) : Dfn K mg "part_noted" 31 ["piece", "first", "last"] := by
  obtain ⟨fd, FD⟩ := c.def_ 21 (d := Hd.dd "part_noted" 31) rfl
  have F := fun_of_d (x := "part_noted") (i := 31) FD
  exact ⟨_, fd, F, He.glo_ok X G (c.fact 44 (f := .glo "part_noted") rfl), F.binds fun _ _ _ _ _ _ us hl => match us, hl with | [_, _, _], _ => rfl⟩
theorem df_fits_between (X : K.In h) (G : h.Ns mainGlobals mg) (c : He.SaysD Hd.fa Hd.fn K) : Dfn K mg "fits_between" 32 ["piece", "first", "last"] := by
  obtain ⟨fd, FD⟩ := c.def_ 22 (d := Hd.dd "fits_between" 32) rfl
  have F := fun_of_d (x := "fits_between") (i := 32) FD
  exact ⟨_, fd, F, He.glo_ok X G (c.fact 45 (f := .glo "fits_between") rfl), F.binds fun _ _ _ _ _ _ us hl => match us, hl with | [_, _, _], _ => rfl⟩
theorem df_part_fits (X : K.In h) (G : h.Ns mainGlobals mg) (c : He.SaysD Hd.fa Hd.fn K) : Dfn K mg "part_fits" 33 ["piece", "first", "last"] := by
  obtain ⟨fd, FD⟩ := c.def_ 23 (d := Hd.dd "part_fits" 33) rfl
  have F := fun_of_d (x := "part_fits") (i := 33) FD
  exact ⟨_, fd, F, He.glo_ok X G (c.fact 46 (f := .glo "part_fits") rfl), F.binds fun _ _ _ _ _ _ us hl => match us, hl with | [_, _, _], _ => rfl⟩
theorem df_front_ends (X : K.In h) (G : h.Ns mainGlobals mg) (c : He.SaysD Hd.fa Hd.fn K) : Dfn K mg "front_ends" 34 ["piece", "size"] := by
  obtain ⟨fd, FD⟩ := c.def_ 24 (d := Hd.dd "front_ends" 34) rfl
  have F := fun_of_d (x := "front_ends") (i := 34) FD
  exact ⟨_, fd, F, He.glo_ok X G (c.fact 47 (f := .glo "front_ends") rfl), F.binds fun _ _ _ _ _ _ us hl => match us, hl with | [_, _], _ => rfl⟩
theorem df_back_starts (X : K.In h) (G : h.Ns mainGlobals mg) (c : He.SaysD Hd.fa Hd.fn K) : Dfn K mg "back_starts" 35 ["piece", "size"] := by
  obtain ⟨fd, FD⟩ := c.def_ 25 (d := Hd.dd "back_starts" 35) rfl
  have F := fun_of_d (x := "back_starts") (i := 35) FD
  exact ⟨_, fd, F, He.glo_ok X G (c.fact 48 (f := .glo "back_starts") rfl), F.binds fun _ _ _ _ _ _ us hl => match us, hl with | [_, _], _ => rfl⟩
theorem df_fewest_changes (X : K.In h) (G : h.Ns mainGlobals mg) (c : He.SaysD Hd.fa Hd.fn K) : Dfn K mg "fewest_changes" 36 ["piece"] := by
  obtain ⟨fd, FD⟩ := c.def_ 26 (d := Hd.dd "fewest_changes" 36) rfl
  have F := fun_of_d (x := "fewest_changes") (i := 36) FD
  exact ⟨_, fd, F, He.glo_ok X G (c.fact 49 (f := .glo "fewest_changes") rfl), F.binds fun _ _ _ _ _ _ us hl => match us, hl with | [_], _ => rfl⟩
theorem df_latest_changes (X : K.In h) (G : h.Ns mainGlobals mg) (c : He.SaysD Hd.fa Hd.fn K) : Dfn K mg "latest_changes" 37 ["piece"] := by
  obtain ⟨fd, FD⟩ := c.def_ 27 (d := Hd.dd "latest_changes" 37) rfl
  have F := fun_of_d (x := "latest_changes") (i := 37) FD
  exact ⟨_, fd, F, He.glo_ok X G (c.fact 50 (f := .glo "latest_changes") rfl), F.binds fun _ _ _ _ _ _ us hl => match us, hl with | [_], _ => rfl⟩
theorem df_earliest_changes (X : K.In h) (G : h.Ns mainGlobals mg) (c : He.SaysD Hd.fa Hd.fn K) : Dfn K mg "earliest_changes" 38 ["piece"] := by
  obtain ⟨fd, FD⟩ := c.def_ 28 (d := Hd.dd "earliest_changes" 38) rfl
  have F := fun_of_d (x := "earliest_changes") (i := 38) FD
  exact ⟨_, fd, F, He.glo_ok X G (c.fact 51 (f := .glo "earliest_changes") rfl), F.binds fun _ _ _ _ _ _ us hl => match us, hl with | [_], _ => rfl⟩
theorem df_could_change (X : K.In h) (G : h.Ns mainGlobals mg) (c : He.SaysD Hd.fa Hd.fn K) : Dfn K mg "could_change" 39 ["piece", "tick"] := by
  obtain ⟨fd, FD⟩ := c.def_ 29 (d := Hd.dd "could_change" 39) rfl
  have F := fun_of_d (x := "could_change") (i := 39) FD
  exact ⟨_, fd, F, He.glo_ok X G (c.fact 52 (f := .glo "could_change") rfl), F.binds fun _ _ _ _ _ _ us hl => match us, hl with | [_, _], _ => rfl⟩
theorem df_parts_around (X : K.In h) (G : h.Ns mainGlobals mg) (c : He.SaysD Hd.fa Hd.fn K) : Dfn K mg "parts_around" 40 ["ends", "starts", "low", "high", "size"] := by
  obtain ⟨fd, FD⟩ := c.def_ 30 (d := Hd.dd "parts_around" 40) rfl
  have F := fun_of_d (x := "parts_around") (i := 40) FD
  exact ⟨_, fd, F, He.glo_ok X G (c.fact 53 (f := .glo "parts_around") rfl), F.binds fun _ _ _ _ _ _ us hl => match us, hl with | [_, _, _, _, _], _ => rfl⟩
theorem df_sure_change (X : K.In h) (G : h.Ns mainGlobals mg) (c : He.SaysD Hd.fa Hd.fn K) : Dfn K mg "sure_change" 41 ["piece", "first", "last"] := by
  obtain ⟨fd, FD⟩ := c.def_ 31 (d := Hd.dd "sure_change" 41) rfl
  have F := fun_of_d (x := "sure_change") (i := 41) FD
  exact ⟨_, fd, F, He.glo_ok X G (c.fact 54 (f := .glo "sure_change") rfl), F.binds fun _ _ _ _ _ _ us hl => match us, hl with | [_, _, _], _ => rfl⟩
theorem df_law_box (X : K.In h) (G : h.Ns mainGlobals mg) (c : He.SaysD Hd.fa Hd.fn K) : Dfn K mg "_law_box" 43 ["_law_script", "_law_k"] := by
  obtain ⟨fd, FD⟩ := c.def_ 32 (d := Hd.dd "_law_box" 43) rfl
  have F := fun_of_d (x := "_law_box") (i := 43) FD
  exact ⟨_, fd, F, He.glo_ok X G (c.fact 55 (f := .glo "_law_box") rfl), F.binds fun _ _ _ _ _ _ us hl => match us, hl with | [_, _], _ => rfl⟩
theorem df_law_take (X : K.In h) (G : h.Ns mainGlobals mg) (c : He.SaysD Hd.fa Hd.fn K) : Dfn K mg "_law_take" 44 ["_law_tin", "_law_below_so"] := by
  obtain ⟨fd, FD⟩ := c.def_ 33 (d := Hd.dd "_law_take" 44) rfl
  have F := fun_of_d (x := "_law_take") (i := 44) FD
  exact ⟨_, fd, F, He.glo_ok X G (c.fact 56 (f := .glo "_law_take") rfl), F.binds fun _ _ _ _ _ _ us hl => match us, hl with | [_, _], _ => rfl⟩
theorem df_law_cells (X : K.In h) (G : h.Ns mainGlobals mg) (c : He.SaysD Hd.fa Hd.fn K) : Dfn K mg "_law_cells" 45 ["_law_script", "_law_most_so"] := by
  obtain ⟨fd, FD⟩ := c.def_ 34 (d := Hd.dd "_law_cells" 45) rfl
  have F := fun_of_d (x := "_law_cells") (i := 45) FD
  exact ⟨_, fd, F, He.glo_ok X G (c.fact 57 (f := .glo "_law_cells") rfl), F.binds fun _ _ _ _ _ _ us hl => match us, hl with | [_, _], _ => rfl⟩
theorem df_law_of (X : K.In h) (G : h.Ns mainGlobals mg) (c : He.SaysD Hd.fa Hd.fn K) : Dfn K mg "_law_of" 46 ["_law_tin", "_law_goods_so"] := by
  obtain ⟨fd, FD⟩ := c.def_ 35 (d := Hd.dd "_law_of" 46) rfl
  have F := fun_of_d (x := "_law_of") (i := 46) FD
  exact ⟨_, fd, F, He.glo_ok X G (c.fact 58 (f := .glo "_law_of") rfl), F.binds fun _ _ _ _ _ _ us hl => match us, hl with | [_, _], _ => rfl⟩
theorem df_law_lists (X : K.In h) (G : h.Ns mainGlobals mg) (c : He.SaysD Hd.fa Hd.fn K) : Dfn K mg "_law_lists" 47 ["_law_matter"] := by
  obtain ⟨fd, FD⟩ := c.def_ 36 (d := Hd.dd "_law_lists" 47) rfl
  have F := fun_of_d (x := "_law_lists") (i := 47) FD
  exact ⟨_, fd, F, He.glo_ok X G (c.fact 59 (f := .glo "_law_lists") rfl), F.binds fun _ _ _ _ _ _ us hl => match us, hl with | [_], _ => rfl⟩
theorem df_law_same (X : K.In h) (G : h.Ns mainGlobals mg) (c : He.SaysD Hd.fa Hd.fn K) : Dfn K mg "_law_same" 48 ["_law_got", "_law_due"] := by
  obtain ⟨fd, FD⟩ := c.def_ 37 (d := Hd.dd "_law_same" 48) rfl
  have F := fun_of_d (x := "_law_same") (i := 48) FD
  exact ⟨_, fd, F, He.glo_ok X G (c.fact 60 (f := .glo "_law_same") rfl), F.binds fun _ _ _ _ _ _ us hl => match us, hl with | [_, _], _ => rfl⟩
theorem df_law_gcd (X : K.In h) (G : h.Ns mainGlobals mg) (c : He.SaysD Hd.fa Hd.fn K) : Dfn K mg "_law_gcd" 49 ["_law_one_so", "_law_two_so"] := by
  obtain ⟨fd, FD⟩ := c.def_ 38 (d := Hd.dd "_law_gcd" 49) rfl
  have F := fun_of_d (x := "_law_gcd") (i := 49) FD
  exact ⟨_, fd, F, He.glo_ok X G (c.fact 61 (f := .glo "_law_gcd") rfl), F.binds fun _ _ _ _ _ _ us hl => match us, hl with | [_, _], _ => rfl⟩
theorem df_law_fr (X : K.In h) (G : h.Ns mainGlobals mg) (c : He.SaysD Hd.fa Hd.fn K) : Dfn K mg "_law_fr" 50 ["_law_top_so", "_law_base_so"] := by
  obtain ⟨fd, FD⟩ := c.def_ 39 (d := Hd.dd "_law_fr" 50) rfl
  have F := fun_of_d (x := "_law_fr") (i := 50) FD
  exact ⟨_, fd, F, He.glo_ok X G (c.fact 62 (f := .glo "_law_fr") rfl), F.binds fun _ _ _ _ _ _ us hl => match us, hl with | [_, _], _ => rfl⟩
theorem df_law_sum (X : K.In h) (G : h.Ns mainGlobals mg) (c : He.SaysD Hd.fa Hd.fn K) : Dfn K mg "_law_sum" 51 ["_law_one_so", "_law_two_so"] := by
  obtain ⟨fd, FD⟩ := c.def_ 40 (d := Hd.dd "_law_sum" 51) rfl
  have F := fun_of_d (x := "_law_sum") (i := 51) FD
  exact ⟨_, fd, F, He.glo_ok X G (c.fact 63 (f := .glo "_law_sum") rfl), F.binds fun _ _ _ _ _ _ us hl => match us, hl with | [_, _], _ => rfl⟩
theorem df_law_less_by (X : K.In h) (G : h.Ns mainGlobals mg) (c : He.SaysD Hd.fa Hd.fn K) : Dfn K mg "_law_less_by" 52 ["_law_one_so", "_law_two_so"] := by
  obtain ⟨fd, FD⟩ := c.def_ 41 (d := Hd.dd "_law_less_by" 52) rfl
  have F := fun_of_d (x := "_law_less_by") (i := 52) FD
  exact ⟨_, fd, F, He.glo_ok X G (c.fact 64 (f := .glo "_law_less_by") rfl), F.binds fun _ _ _ _ _ _ us hl => match us, hl with | [_, _], _ => rfl⟩
theorem df_law_mul (X : K.In h) (G : h.Ns mainGlobals mg) (c : He.SaysD Hd.fa Hd.fn K) : Dfn K mg "_law_mul" 53 ["_law_one_so", "_law_two_so"] := by
  obtain ⟨fd, FD⟩ := c.def_ 42 (d := Hd.dd "_law_mul" 53) rfl
  have F := fun_of_d (x := "_law_mul") (i := 53) FD
  exact ⟨_, fd, F, He.glo_ok X G (c.fact 65 (f := .glo "_law_mul") rfl), F.binds fun _ _ _ _ _ _ us hl => match us, hl with | [_, _], _ => rfl⟩
theorem df_law_dot (X : K.In h) (G : h.Ns mainGlobals mg) (c : He.SaysD Hd.fa Hd.fn K) : Dfn K mg "_law_dot" 54 ["_law_one_so", "_law_two_so"] := by
  obtain ⟨fd, FD⟩ := c.def_ 43 (d := Hd.dd "_law_dot" 54) rfl
  have F := fun_of_d (x := "_law_dot") (i := 54) FD
  exact ⟨_, fd, F, He.glo_ok X G (c.fact 66 (f := .glo "_law_dot") rfl), F.binds fun _ _ _ _ _ _ us hl => match us, hl with | [_, _], _ => rfl⟩
theorem df_law_both_rows (X : K.In h) (G : h.Ns mainGlobals mg) (c : He.SaysD Hd.fa Hd.fn K) : Dfn K mg "_law_both_rows" 55 ["_law_one_so", "_law_two_so"] := by
  obtain ⟨fd, FD⟩ := c.def_ 44 (d := Hd.dd "_law_both_rows" 55) rfl
  have F := fun_of_d (x := "_law_both_rows") (i := 55) FD
  exact ⟨_, fd, F, He.glo_ok X G (c.fact 67 (f := .glo "_law_both_rows") rfl), F.binds fun _ _ _ _ _ _ us hl => match us, hl with | [_, _], _ => rfl⟩
theorem df_law_next (X : K.In h) (G : h.Ns mainGlobals mg) (c : He.SaysD Hd.fa Hd.fn K) : Dfn K mg "_law_next" 56 ["_law_table_so", "_law_row_so"] := by
  obtain ⟨fd, FD⟩ := c.def_ 45 (d := Hd.dd "_law_next" 56) rfl
  have F := fun_of_d (x := "_law_next") (i := 56) FD
  exact ⟨_, fd, F, He.glo_ok X G (c.fact 68 (f := .glo "_law_next") rfl), F.binds fun _ _ _ _ _ _ us hl => match us, hl with | [_, _], _ => rfl⟩
theorem df_law_steps (X : K.In h) (G : h.Ns mainGlobals mg) (c : He.SaysD Hd.fa Hd.fn K) : Dfn K mg "_law_steps" 57 ["_law_rows_so"] := by
  obtain ⟨fd, FD⟩ := c.def_ 46 (d := Hd.dd "_law_steps" 57) rfl
  have F := fun_of_d (x := "_law_steps") (i := 57) FD
  exact ⟨_, fd, F, He.glo_ok X G (c.fact 69 (f := .glo "_law_steps") rfl), F.binds fun _ _ _ _ _ _ us hl => match us, hl with | [_], _ => rfl⟩
theorem df_law_over_any (X : K.In h) (G : h.Ns mainGlobals mg) (c : He.SaysD Hd.fa Hd.fn K) : Dfn K mg "_law_over_any" 58 ["_law_one_so", "_law_two_so"] := by
  obtain ⟨fd, FD⟩ := c.def_ 47 (d := Hd.dd "_law_over_any" 58) rfl
  have F := fun_of_d (x := "_law_over_any") (i := 58) FD
  exact ⟨_, fd, F, He.glo_ok X G (c.fact 70 (f := .glo "_law_over_any") rfl), F.binds fun _ _ _ _ _ _ us hl => match us, hl with | [_, _], _ => rfl⟩
theorem df_law_struck (X : K.In h) (G : h.Ns mainGlobals mg) (c : He.SaysD Hd.fa Hd.fn K) : Dfn K mg "_law_struck" 59 ["_law_row_so", "_law_head_so", "_law_k"] := by
  obtain ⟨fd, FD⟩ := c.def_ 48 (d := Hd.dd "_law_struck" 59) rfl
  have F := fun_of_d (x := "_law_struck") (i := 59) FD
  exact ⟨_, fd, F, He.glo_ok X G (c.fact 71 (f := .glo "_law_struck") rfl), F.binds fun _ _ _ _ _ _ us hl => match us, hl with | [_, _, _], _ => rfl⟩
theorem df_law_rank (X : K.In h) (G : h.Ns mainGlobals mg) (c : He.SaysD Hd.fa Hd.fn K) : Dfn K mg "_law_rank" 60 ["_law_rows_so"] := by
  obtain ⟨fd, FD⟩ := c.def_ 49 (d := Hd.dd "_law_rank" 60) rfl
  have F := fun_of_d (x := "_law_rank") (i := 60) FD
  exact ⟨_, fd, F, He.glo_ok X G (c.fact 72 (f := .glo "_law_rank") rfl), F.binds fun _ _ _ _ _ _ us hl => match us, hl with | [_], _ => rfl⟩
theorem df_law_idle (X : K.In h) (G : h.Ns mainGlobals mg) (c : He.SaysD Hd.fa Hd.fn K) : Dfn K mg "_law_idle" 61 ["_law_size_so"] := by
  obtain ⟨fd, FD⟩ := c.def_ 50 (d := Hd.dd "_law_idle" 61) rfl
  have F := fun_of_d (x := "_law_idle") (i := 61) FD
  exact ⟨_, fd, F, He.glo_ok X G (c.fact 73 (f := .glo "_law_idle") rfl), F.binds fun _ _ _ _ _ _ us hl => match us, hl with | [_], _ => rfl⟩
theorem df_law_subsets (X : K.In h) (G : h.Ns mainGlobals mg) (c : He.SaysD Hd.fa Hd.fn K) : Dfn K mg "_law_subsets" 62 ["_law_things_so"] := by
  obtain ⟨fd, FD⟩ := c.def_ 51 (d := Hd.dd "_law_subsets" 62) rfl
  have F := fun_of_d (x := "_law_subsets") (i := 62) FD
  exact ⟨_, fd, F, He.glo_ok X G (c.fact 74 (f := .glo "_law_subsets") rfl), F.binds fun _ _ _ _ _ _ us hl => match us, hl with | [_], _ => rfl⟩
theorem df_law_small (X : K.In h) (G : h.Ns mainGlobals mg) (c : He.SaysD Hd.fa Hd.fn K) : Dfn K mg "_law_small" 63 ["_law_tin"] := by
  obtain ⟨fd, FD⟩ := c.def_ 52 (d := Hd.dd "_law_small" 63) rfl
  have F := fun_of_d (x := "_law_small") (i := 63) FD
  exact ⟨_, fd, F, He.glo_ok X G (c.fact 75 (f := .glo "_law_small") rfl), F.binds fun _ _ _ _ _ _ us hl => match us, hl with | [_], _ => rfl⟩
theorem df_law_row (X : K.In h) (G : h.Ns mainGlobals mg) (c : He.SaysD Hd.fa Hd.fn K) : Dfn K mg "_law_row" 64 ["_law_tin", "_law_size_so"] := by
  obtain ⟨fd, FD⟩ := c.def_ 53 (d := Hd.dd "_law_row" 64) rfl
  have F := fun_of_d (x := "_law_row") (i := 64) FD
  exact ⟨_, fd, F, He.glo_ok X G (c.fact 76 (f := .glo "_law_row") rfl), F.binds fun _ _ _ _ _ _ us hl => match us, hl with | [_, _], _ => rfl⟩
theorem df_law_on (X : K.In h) (G : h.Ns mainGlobals mg) (c : He.SaysD Hd.fa Hd.fn K) : Dfn K mg "_law_on" 65 ["_law_machine_so", "_law_cells_so", "_law_inputs_so"] := by
  obtain ⟨fd, FD⟩ := c.def_ 54 (d := Hd.dd "_law_on" 65) rfl
  have F := fun_of_d (x := "_law_on") (i := 65) FD
  exact ⟨_, fd, F, He.glo_ok X G (c.fact 77 (f := .glo "_law_on") rfl), F.binds fun _ _ _ _ _ _ us hl => match us, hl with | [_, _, _], _ => rfl⟩
theorem df_law_goes (X : K.In h) (G : h.Ns mainGlobals mg) (c : He.SaysD Hd.fa Hd.fn K) : Dfn K mg "_law_goes" 66 ["_law_columns_so", "_law_nexts_so"] := by
  obtain ⟨fd, FD⟩ := c.def_ 55 (d := Hd.dd "_law_goes" 66) rfl
  have F := fun_of_d (x := "_law_goes") (i := 66) FD
  exact ⟨_, fd, F, He.glo_ok X G (c.fact 78 (f := .glo "_law_goes") rfl), F.binds fun _ _ _ _ _ _ us hl => match us, hl with | [_, _], _ => rfl⟩
theorem df_law_whole (X : K.In h) (G : h.Ns mainGlobals mg) (c : He.SaysD Hd.fa Hd.fn K) : Dfn K mg "_law_whole" 67 ["_law_tin"] := by
  obtain ⟨fd, FD⟩ := c.def_ 56 (d := Hd.dd "_law_whole" 67) rfl
  have F := fun_of_d (x := "_law_whole") (i := 67) FD
  exact ⟨_, fd, F, He.glo_ok X G (c.fact 79 (f := .glo "_law_whole") rfl), F.binds fun _ _ _ _ _ _ us hl => match us, hl with | [_], _ => rfl⟩
theorem df_law_machine (X : K.In h) (G : h.Ns mainGlobals mg) (c : He.SaysD Hd.fa Hd.fn K) : Dfn K mg "_law_machine" 68 ["_law_tin", "_law_n_so", "_law_m_so"] := by
  obtain ⟨fd, FD⟩ := c.def_ 57 (d := Hd.dd "_law_machine" 68) rfl
  have F := fun_of_d (x := "_law_machine") (i := 68) FD
  exact ⟨_, fd, F, He.glo_ok X G (c.fact 80 (f := .glo "_law_machine") rfl), F.binds fun _ _ _ _ _ _ us hl => match us, hl with | [_, _, _], _ => rfl⟩
theorem df_law_given (X : K.In h) (G : h.Ns mainGlobals mg) (c : He.SaysD Hd.fa Hd.fn K) : Dfn K mg "_law_given" 69 ["_law_tin", "_law_m_so", "_law_ticks_so"] := by
  obtain ⟨fd, FD⟩ := c.def_ 58 (d := Hd.dd "_law_given" 69) rfl
  have F := fun_of_d (x := "_law_given") (i := 69) FD
  exact ⟨_, fd, F, He.glo_ok X G (c.fact 81 (f := .glo "_law_given") rfl), F.binds fun _ _ _ _ _ _ us hl => match us, hl with | [_, _, _], _ => rfl⟩
theorem df_law_ticks_of (X : K.In h) (G : h.Ns mainGlobals mg) (c : He.SaysD Hd.fa Hd.fn K) : Dfn K mg "_law_ticks_of" 70 ["_law_piece_so"] := by
  obtain ⟨fd, FD⟩ := c.def_ 59 (d := Hd.dd "_law_ticks_of" 70) rfl
  have F := fun_of_d (x := "_law_ticks_of") (i := 70) FD
  exact ⟨_, fd, F, He.glo_ok X G (c.fact 82 (f := .glo "_law_ticks_of") rfl), F.binds fun _ _ _ _ _ _ us hl => match us, hl with | [_], _ => rfl⟩
theorem df_law_fit_parts (X : K.In h) (G : h.Ns mainGlobals mg) (c : He.SaysD Hd.fa Hd.fn K) : Dfn K mg "_law_fit_parts" 71 ["_law_piece_so"] := by
  obtain ⟨fd, FD⟩ := c.def_ 60 (d := Hd.dd "_law_fit_parts" 71) rfl
  have F := fun_of_d (x := "_law_fit_parts") (i := 71) FD
  exact ⟨_, fd, F, He.glo_ok X G (c.fact 83 (f := .glo "_law_fit_parts") rfl), F.binds fun _ _ _ _ _ _ us hl => match us, hl with | [_], _ => rfl⟩
theorem df_law_lots_of_changes (X : K.In h) (G : h.Ns mainGlobals mg) (c : He.SaysD Hd.fa Hd.fn K) : Dfn K mg "_law_lots_of_changes" 72 ["_law_fits_so", "_law_many_so"] := by
  obtain ⟨fd, FD⟩ := c.def_ 61 (d := Hd.dd "_law_lots_of_changes" 72) rfl
  have F := fun_of_d (x := "_law_lots_of_changes") (i := 72) FD
  exact ⟨_, fd, F, He.glo_ok X G (c.fact 84 (f := .glo "_law_lots_of_changes") rfl), F.binds fun _ _ _ _ _ _ us hl => match us, hl with | [_, _], _ => rfl⟩
theorem df_law_shifted (X : K.In h) (G : h.Ns mainGlobals mg) (c : He.SaysD Hd.fa Hd.fn K) : Dfn K mg "_law_shifted" 73 ["_law_tin", "_law_machine_so"] := by
  obtain ⟨fd, FD⟩ := c.def_ 62 (d := Hd.dd "_law_shifted" 73) rfl
  have F := fun_of_d (x := "_law_shifted") (i := 73) FD
  exact ⟨_, fd, F, He.glo_ok X G (c.fact 85 (f := .glo "_law_shifted") rfl), F.binds fun _ _ _ _ _ _ us hl => match us, hl with | [_, _], _ => rfl⟩
theorem df_law_drawn_piece (X : K.In h) (G : h.Ns mainGlobals mg) (c : He.SaysD Hd.fa Hd.fn K) : Dfn K mg "_law_drawn_piece" 74 ["_law_tin"] := by
  obtain ⟨fd, FD⟩ := c.def_ 63 (d := Hd.dd "_law_drawn_piece" 74) rfl
  have F := fun_of_d (x := "_law_drawn_piece") (i := 74) FD
  exact ⟨_, fd, F, He.glo_ok X G (c.fact 86 (f := .glo "_law_drawn_piece") rfl), F.binds fun _ _ _ _ _ _ us hl => match us, hl with | [_], _ => rfl⟩
theorem df_law_heard (X : K.In h) (G : h.Ns mainGlobals mg) (c : He.SaysD Hd.fa Hd.fn K) : Dfn K mg "_law_heard" 75 ["_law_door_so", "_law_piece_so"] := by
  obtain ⟨fd, FD⟩ := c.def_ 64 (d := Hd.dd "_law_heard" 75) rfl
  have F := fun_of_d (x := "_law_heard") (i := 75) FD
  exact ⟨_, fd, F, He.glo_ok X G (c.fact 87 (f := .glo "_law_heard") rfl), F.binds fun _ _ _ _ _ _ us hl => match us, hl with | [_, _], _ => rfl⟩
theorem df_law_refused (X : K.In h) (G : h.Ns mainGlobals mg) (c : He.SaysD Hd.fa Hd.fn K) : Dfn K mg "_law_refused" 76 ["_law_door_so", "_law_piece_so"] := by
  obtain ⟨fd, FD⟩ := c.def_ 65 (d := Hd.dd "_law_refused" 76) rfl
  have F := fun_of_d (x := "_law_refused") (i := 76) FD
  exact ⟨_, fd, F, He.glo_ok X G (c.fact 88 (f := .glo "_law_refused") rfl), F.binds fun _ _ _ _ _ _ us hl => match us, hl with | [_, _], _ => rfl⟩
theorem df_law_piece_right (X : K.In h) (G : h.Ns mainGlobals mg) (c : He.SaysD Hd.fa Hd.fn K) : Dfn K mg "_law_piece_right" 77 ["_law_tin", "_law_piece_so"] := by
  obtain ⟨fd, FD⟩ := c.def_ 66 (d := Hd.dd "_law_piece_right" 77) rfl
  have F := fun_of_d (x := "_law_piece_right") (i := 77) FD
  exact ⟨_, fd, F, He.glo_ok X G (c.fact 89 (f := .glo "_law_piece_right") rfl), F.binds fun _ _ _ _ _ _ us hl => match us, hl with | [_, _], _ => rfl⟩
theorem df_law_by_hand_right (X : K.In h) (G : h.Ns mainGlobals mg) (c : He.SaysD Hd.fa Hd.fn K) : Dfn K mg "_law_by_hand_right" 78 [] := by
  obtain ⟨fd, FD⟩ := c.def_ 67 (d := Hd.dd "_law_by_hand_right" 78) rfl
  have F := fun_of_d (x := "_law_by_hand_right") (i := 78) FD
  exact ⟨_, fd, F, He.glo_ok X G (c.fact 90 (f := .glo "_law_by_hand_right") rfl), F.binds fun _ _ _ _ _ _ us hl => match us, hl with | [], _ => rfl⟩
theorem df_all (X : K.In h) (G : h.Ns mainGlobals mg) (c : He.SaysD Hd.fa Hd.fn K) : Dfs K mg :=
  ⟨df_tupled X G c, df_part_of X G c, df_part_plus X G c, df_part_minus X G c, df_part_times X G c, df_part_over X G c, df_cells_plus X G c, df_cells_times X G c, df_cells_none X G c, df_are_none X G c, df_unit_row X G c, df_lead_of X G c, df_lessened_by X G c, df_reduced_rows X G c, df_zeros_of X G c, df_columns X G c, df_next_columns X G c, df_weighed X G c, df_clash_in X G c, df_found_clash X G c, df_could_be X G c, df_part_noted X G c, df_fits_between X G c, df_part_fits X G c, df_front_ends X G c, df_back_starts X G c, df_fewest_changes X G c, df_latest_changes X G c, df_earliest_changes X G c, df_could_change X G c, df_parts_around X G c, df_sure_change X G c, df_law_box X G c, df_law_take X G c, df_law_cells X G c, df_law_of X G c, df_law_lists X G c, df_law_same X G c, df_law_gcd X G c, df_law_fr X G c, df_law_sum X G c, df_law_less_by X G c, df_law_mul X G c, df_law_dot X G c, df_law_both_rows X G c, df_law_next X G c, df_law_steps X G c, df_law_over_any X G c, df_law_struck X G c, df_law_rank X G c, df_law_idle X G c, df_law_subsets X G c, df_law_small X G c, df_law_row X G c, df_law_on X G c, df_law_goes X G c, df_law_whole X G c, df_law_machine X G c, df_law_given X G c, df_law_ticks_of X G c, df_law_fit_parts X G c, df_law_lots_of_changes X G c, df_law_shifted X G c, df_law_drawn_piece X G c, df_law_heard X G c, df_law_refused X G c, df_law_piece_right X G c, df_law_by_hand_right X G c⟩
theorem the_law {P : Program} {w : World} {f : Addr} (X : K.In h) (G : h.Ns mainGlobals mg) (hfa : mg ("law" : Str) = some (.ref f)) (c : He.SaysD Hd.fa Hd.fn K) (x : Hd.exK K = true) :
    ∃ fd : FuncData, (∀ (s : Shared) (v : Value), BindsTo s fd ⟨[v], []⟩ [("_law_script", v)]) ∧ ∀ base : Heap, K.In base → base.Ns mainGlobals mg → FnOk P w K mg base CX0 19 f fd ["_law_script"] (spLaw K) := by
  obtain ⟨fd, FD⟩ := c.def_ 68 (d := Hd.dd "law" 79) rfl
  have F := fun_of_d (x := "law") (i := 79) FD
  have e := hfa.symm.trans (He.glo_ok X G (c.fact 91 (f := .glo "law") rfl))
  cases e
  refine ⟨fd, ?_, fun base _ _ => all_k (fr_facts X G c x) (ex_facts X G c) (df_all X G c) F⟩
  obtain ⟨oc, od, kV, doc, pm, an, cdv, ct, osl, rfl, lk, hcd⟩ := F.ex
  exact fun s v => .of_eq rfl
end
end Pd
open PySem PySem.W PySem.Calls PyProof.Rows
theorem PySem.Challenge.cw_recordfits_k61_whole_changes_by_all_lots_holds : PySem.Challenge.rw_recordfits_k61_whole_changes_by_all_lots.Holds := by
  w_on; o_law
  refine HandSHeadRun.head_imp (r := OpenLaw.row PySem.Challenge.rw_recordfits_k61_whole_changes_by_all_lots) (q := view (OpenLaw.row PySem.Challenge.rw_recordfits_k61_whole_changes_by_all_lots).prog [0, 79]) (H := Hd.hk) (ob := Hd.ob) (M := 3000) (loose := Hd.names) (d := HandSHeadRun.topDef (OpenLaw.row PySem.Challenge.rw_recordfits_k61_whole_changes_by_all_lots).prog 79) (kwd := [])
    Hd.ob_eq Hd.run (by kernel_rfl) (by kernel_rfl) (by kernel_rfl) (by rfl) (by first | assumption | decide +kernel) (by decide +kernel) ⟨rfl, rfl, rfl, rfl, rfl, by decide +kernel⟩ ?hw ?hc
  case hw => w_witness2
  case hc =>
    refine L2.walk_ofE (l := PySem.Challenge.rw_recordfits_k61_whole_changes_by_all_lots) (n := 63) (k := 19) (x := "_law_script") (CX := L2.CX0) rfl (by decide) (by kernel_rfl) ⟨rfl, by decide, by decide⟩ ?F (fun _ _ _ _ z => z)
    intro w mg fa h Y G hmg0
    obtain ⟨K, KX, c, x⟩ := Y
    have hmg : mg ("law" : PySem.Str) = some (.ref fa) := by
      have e : (HandSHeadRun.topDef (OpenLaw.row PySem.Challenge.rw_recordfits_k61_whole_changes_by_all_lots).prog 79).name = ("law" : PySem.Str) := by kernel_rfl
      rw [← e]
      exact hmg0
    obtain ⟨fd, hb, hF⟩ := Pd.the_law (P := (PySem.Challenge.rw_recordfits_k61_whole_changes_by_all_lots).prog) (w := w) KX G hmg c x
    exact ⟨K, fd, Pd.spLaw K, KX, hb, fun H a ns hl _ hS => ⟨a, ns, rfl, hS, hl, fun _ => rfl⟩, hF⟩
end
