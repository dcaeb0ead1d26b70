import PyProof.Rows.All
import Wide.All
import OpenK.AllK
import Wide.FinOn
import KE.KStateDown
import HandS.Head0
import HandS.Head1
import HandS.Head2
import HandS.Head3
import HandS.ForMost
import HandS.Wide
import HandS.WideBits
import HandS.Gcd
import HandS.IsInst
import HandS.Property
import HandS.ClsMeth
import HandS.OwnEq
import HandS.Star
import HandS.TupMul
import HandS.TupAny
import HandS.Style
import HandS.Defaults
import HandS.Evl
import HandS.Iter
import HandS.Text
import HandS.HeadHook1
import HandS.HeadHook2
import HandS.HeadNt
import KE.KExcSuper
import HandS.ExcOwn
import HandS.HeadEnd
import PySem.Challenge.RW_trueruns_k86_whole_outer_rows_and_growin
section
set_option Elab.async false
set_option linter.all false
set_option maxRecDepth 100000
set_option maxHeartbeats 0
/-! The head: the run of the whole text, what it leaves at the names. Printed by genI.py. -/
namespace HeadT
open PySem PySem.W PySem.Calls PyProof.Rows
abbrev R : OpenRow := OpenLaw.row PySem.Challenge.rw_trueruns_k86_whole_outer_rows_and_growin
abbrev qv : Program := view R.prog [0, 143]
def names0 : List PySem.Str := ["_wall", "RunsError", "BadNumber", "BadPoly", "BadLink", "BadRow", "MixedRow", "BadText", "Pole", "TooLarge", "ZERO", "ONE", "FIGURES_BOUND", "is_whole", "lowest", "is_number"]
def names1 : List PySem.Str := ["check_number", "plus", "minus", "product_of", "over", "opposite", "sign_of", "powered", "LETTERS", "MOST_DEGREE", "trimmed", "poly", "cleared", "poly_at", "poly_times", "poly_scaled"]
def names2 : List PySem.Str := ["row_plus", "row_scaled", "dot", "flipped", "times_matrix", "plus_matrix", "scaled_matrix", "divided", "primitive", "whole_numbers", "whole_rest", "common", "FIGURES", "MOST_FIGURES", "number_text", "numbers_text"]
def names3 : List PySem.Str := ["poly_text", "figures_end", "check_lowest", "scan_number", "scan_numbers", "scan_poly", "check_text", "func_form", "check_sides", "Func", "coprime_func", "made_func", "func_as_told", "behind_sign", "scan_func", "check_part"]
def names4 : List PySem.Str := ["Link", "made_link", "scan_link", "link_as_told", "joined_links", "all_true", "FLOW_BOUND", "PLANE", "ONTO_A", "ONTO_B", "ONTO_C", "onto_line", "check_far", "two_raised", "unit_of", "row_flow"]
def names5 : List PySem.Str := ["Flows", "LINK_BOUND", "check_links", "Row", "scan_row", "reduced", "rounded", "turns_of", "is_forward", "grows_once", "grows_ever", "fitting_flows", "flows_ever", "wrapped", "_law_well", "_law_pull"]
def names6 : List PySem.Str := ["_law_gcd", "_law_frac", "_law_add", "_law_neg", "_law_mul", "_law_whole", "_law_is_frac", "_law_is_row", "_law_trim", "_law_pmul", "_law_row", "_law_reduced", "_law_undone", "_law_is_link", "_law_is_links", "_law_true"]
def names7 : List PySem.Str := ["_law_time", "_law_unit", "_law_flow", "_law_flown", "_law_is_matrix", "_law_rounded", "_law_some_below", "_law_drawn", "_law_split", "_law_said", "_law_flows_told", "_law_flows_due", "_law_within", "_law_others", "_law_not_kept"]
def names : List PySem.Str := names0 ++ names1 ++ names2 ++ names3 ++ names4 ++ names5 ++ names6 ++ names7
open HandSHeadRun
theorem runL (w : World) : (wholeF (fun p => stepQ (denQ tabQ) p w) fenceQ 60000 R.prog).map (fun x => looksF R.prog x.1.heap x.2.abs) = some true := by
  kernel_rfl
theorem runS (w : World) : (wholeF (fun p => stepQ (denQ tabQ) p w) fenceQ 60000 R.prog).map (fun x => seenQ qv names (importedModules R.prog.main.body) (fun s => xlAt qv [] s && recOk R.toRowW.records s) x.2.abs) = some (openGood qv names) := by
  kernel_rfl
end HeadT
end
section
set_option Elab.async false
set_option linter.all false
set_option maxRecDepth 100000
set_option maxHeartbeats 4000000
/-! DL1: data D (values without addresses), what it means that a value stands for a datum, the state of a frame by data, moves of the state. -/
namespace DL
open PySem PySem.Spec PyProof.Rows L2 Evl

/-- a datum -/
inductive D where
  | non | bl (b : Bool) | int (i : Int) | str (x : Str)
  | tup (ds : List D) | lst (ds : List D) | rl (ds : List D) | obj (C : Addr) (ns : List Str) (ds : List D) | adr (a : Addr)

mutual
/-- the value v stands for the datum in the (frozen) heap F -/
def Rep (K : PySem.W.Frag) (F : Hp) : D → V → Prop
  | .non, v => v = .non
  | .bl b, v => v = .bl b
  | .int i, v => v = .int i
  | .str x, v => v = .str x
  | .adr a, v => v = .ref a
  | .tup ds, v => ∃ a vs, v = .ref a ∧ SqT K F a vs ∧ RepL K F ds vs
  | .lst ds, v => ∃ a vs, v = .ref a ∧ F a = some (.lst vs) ∧ RepL K F ds vs
  | .rl ds, v => ∃ a vs, v = .ref a ∧ SqL K F a vs ∧ RepL K F ds vs
  | .obj C ns ds, v => ∃ a dx us, v = .ref a ∧ F a = some (.ins C dx (ns.zip us)) ∧ F dx = some (.own a) ∧ ns.length = us.length ∧ RepL K F ds us
def RepL (K : PySem.W.Frag) (F : Hp) : List D → List V → Prop
  | [], vs => vs = []
  | d :: ds, vs => ∃ v r, vs = v :: r ∧ Rep K F d v ∧ RepL K F ds r
end
section
variable {K : PySem.W.Frag} {F F' H H' : Hp}
mutual
theorem Rep.mono (e : Ex F F') : ∀ {d : D} {v : V}, Rep K F d v → Rep K F' d v
  | .non, v, h => by rw [Rep] at h ⊢; exact h
  | .bl b, v, h => by rw [Rep] at h ⊢; exact h
  | .int i, v, h => by rw [Rep] at h ⊢; exact h
  | .str x, v, h => by rw [Rep] at h ⊢; exact h
  | .adr a, v, h => by rw [Rep] at h ⊢; exact h
  | .tup ds, v, h => by
    rw [Rep] at h ⊢
    obtain ⟨a, vs, h1, h2, h3⟩ := h
    exact ⟨a, vs, h1, ex_t e h2, RepL.mono e h3⟩
  | .lst ds, v, h => by
    rw [Rep] at h ⊢
    obtain ⟨a, vs, h1, h2, h3⟩ := h
    exact ⟨a, vs, h1, e _ _ h2, RepL.mono e h3⟩
  | .rl ds, v, h => by
    rw [Rep] at h ⊢
    obtain ⟨a, vs, h1, h2, h3⟩ := h
    exact ⟨a, vs, h1, ex_l e h2, RepL.mono e h3⟩
  | .obj C ns ds, v, h => by
    rw [Rep] at h ⊢
    obtain ⟨a, dx, us, h1, h2, h3, h4, h5⟩ := h
    exact ⟨a, dx, us, h1, e _ _ h2, e _ _ h3, h4, RepL.mono e h5⟩
theorem RepL.mono (e : Ex F F') : ∀ {ds : List D} {vs : List V}, RepL K F ds vs → RepL K F' ds vs
  | [], vs, h => by rw [RepL] at h ⊢; exact h
  | d :: ds, vs, h => by
    rw [RepL] at h ⊢
    obtain ⟨v, r, h1, h2, h3⟩ := h
    exact ⟨v, r, h1, Rep.mono e h2, RepL.mono e h3⟩
end
theorem rep_tup {ds : List D} {v : V} : Rep K F (.tup ds) v ↔ ∃ a vs, v = .ref a ∧ SqT K F a vs ∧ RepL K F ds vs := by rw [Rep]
theorem rep_lst {ds : List D} {v : V} : Rep K F (.lst ds) v ↔ ∃ a vs, v = .ref a ∧ F a = some (.lst vs) ∧ RepL K F ds vs := by rw [Rep]
theorem rep_rl {ds : List D} {v : V} : Rep K F (.rl ds) v ↔ ∃ a vs, v = .ref a ∧ SqL K F a vs ∧ RepL K F ds vs := by rw [Rep]
theorem rep_obj {C : Addr} {ns : List Str} {ds : List D} {v : V} : Rep K F (.obj C ns ds) v ↔ ∃ a dx us, v = .ref a ∧ F a = some (.ins C dx (ns.zip us)) ∧ F dx = some (.own a) ∧ ns.length = us.length ∧ RepL K F ds us := by rw [Rep]
theorem rep_int {i : Int} {v : V} : Rep K F (.int i) v ↔ v = .int i := by rw [Rep]
theorem rep_bl {b : Bool} {v : V} : Rep K F (.bl b) v ↔ v = .bl b := by rw [Rep]
theorem rep_str {x : Str} {v : V} : Rep K F (.str x) v ↔ v = .str x := by rw [Rep]
theorem rep_adr {a : Addr} {v : V} : Rep K F (.adr a) v ↔ v = .ref a := by rw [Rep]
theorem rep_non {v : V} : Rep K F .non v ↔ v = .non := by rw [Rep]
theorem repL_nil {vs : List V} : RepL K F [] vs ↔ vs = [] := by rw [RepL]
theorem repL_cons {d : D} {ds : List D} {vs : List V} : RepL K F (d :: ds) vs ↔ ∃ v r, vs = v :: r ∧ Rep K F d v ∧ RepL K F ds r := by rw [RepL]
theorem RepL.cons {d : D} {ds : List D} {v : V} {vs : List V} (h : Rep K F d v) (r : RepL K F ds vs) : RepL K F (d :: ds) (v :: vs) := repL_cons.mpr ⟨v, vs, rfl, h, r⟩
theorem RepL.length : ∀ {ds : List D} {vs : List V}, RepL K F ds vs → ds.length = vs.length
  | [], vs, h => by rw [repL_nil] at h; subst h; rfl
  | d :: ds, vs, h => by
    rw [repL_cons] at h
    obtain ⟨v, r, rfl, _, h3⟩ := h
    rw [List.length_cons, List.length_cons, RepL.length h3]
theorem RepL.get : ∀ {ds : List D} {vs : List V} {i : Nat} {d : D}, RepL K F ds vs → ds[i]? = some d → ∃ v, vs[i]? = some v ∧ Rep K F d v
  | [], _, _, _, _, e => by simp at e
  | d :: ds, vs, i, d', h, e => by
    rw [repL_cons] at h
    obtain ⟨v, r, rfl, h2, h3⟩ := h
    cases i with
    | zero =>
      simp at e
      subst e
      exact ⟨v, rfl, h2⟩
    | succ i =>
      obtain ⟨w, hw, q⟩ := RepL.get (i := i) h3 (by simpa using e)
      exact ⟨w, by simpa using hw, q⟩
theorem RepL.append : ∀ {ds es : List D} {vs ws : List V}, RepL K F ds vs → RepL K F es ws → RepL K F (ds ++ es) (vs ++ ws)
  | [], es, vs, ws, h, h' => by rw [repL_nil] at h; subst h; exact h'
  | d :: ds, es, vs, ws, h, h' => by
    rw [repL_cons] at h
    obtain ⟨v, r, rfl, h2, h3⟩ := h
    exact RepL.cons h2 (RepL.append h3 h')
theorem RepL.take : ∀ {ds : List D} {vs : List V} (n : Nat), RepL K F ds vs → RepL K F (ds.take n) (vs.take n)
  | _, _, 0, _ => by rw [List.take_zero, List.take_zero]; exact repL_nil.mpr rfl
  | [], vs, n + 1, h => by rw [repL_nil] at h; subst h; exact repL_nil.mpr rfl
  | d :: ds, vs, n + 1, h => by
    rw [repL_cons] at h
    obtain ⟨v, r, rfl, h2, h3⟩ := h
    exact RepL.cons h2 (RepL.take n h3)
theorem RepL.drop : ∀ {ds : List D} {vs : List V} (n : Nat), RepL K F ds vs → RepL K F (ds.drop n) (vs.drop n)
  | _, _, 0, h => h
  | [], vs, n + 1, h => by rw [repL_nil] at h; subst h; exact repL_nil.mpr rfl
  | d :: ds, vs, n + 1, h => by
    rw [repL_cons] at h
    obtain ⟨v, r, rfl, h2, h3⟩ := h
    exact RepL.drop n h3
theorem RepL.set {d : D} {v : V} (q : Rep K F d v) : ∀ {ds : List D} {vs : List V} (i : Nat), RepL K F ds vs → RepL K F (ds.set i d) (vs.set i v)
  | [], vs, i, h => by rw [repL_nil] at h; subst h; exact repL_nil.mpr rfl
  | e :: ds, vs, 0, h => by
    rw [repL_cons] at h
    obtain ⟨v, r, rfl, h2, h3⟩ := h
    exact RepL.cons q h3
  | e :: ds, vs, i + 1, h => by
    rw [repL_cons] at h
    obtain ⟨v, r, rfl, h2, h3⟩ := h
    exact RepL.cons h2 (RepL.set q i h3)
theorem RepL.dropLast : ∀ {ds : List D} {vs : List V}, RepL K F ds vs → RepL K F ds.dropLast vs.dropLast := fun {ds vs} h => by
  rw [List.dropLast_eq_take, List.dropLast_eq_take, h.length]
  exact h.take _
theorem RepL.reverse : ∀ {ds : List D} {vs : List V}, RepL K F ds vs → RepL K F ds.reverse vs.reverse
  | [], vs, h => by rw [repL_nil] at h; subst h; exact repL_nil.mpr rfl
  | d :: ds, vs, h => by
    rw [repL_cons] at h
    obtain ⟨v, r, rfl, h2, h3⟩ := h
    rw [List.reverse_cons, List.reverse_cons]
    exact RepL.append (RepL.reverse h3) (RepL.cons h2 (repL_nil.mpr rfl))
theorem RepL.ints : ∀ {ns : List Int}, RepL K F (ns.map D.int) (ns.map V.int)
  | [] => repL_nil.mpr rfl
  | n :: ns => RepL.cons (rep_int.mpr rfl) RepL.ints
end

/-- what a frame owns: a list or an object that nobody else sees, its items frozen -/
inductive Ow where
  | lst (ds : List D) | obj (C : Addr) (ns : List Str) (ds : List D)
def Ow.fz : Ow → D
  | .lst ds => .lst ds
  | .obj C ns ds => .obj C ns ds
/-- a slot of a frame -/
inductive Sl where
  | un | fr (d : D) | ow (o : Ow)
/-- a result: frozen, owned (fresh), a frame's own slot -/
inductive Res where
  | fr (d : D) | ow (o : Ow) | sl (j : Nat)

def OwAt (K : PySem.W.Frag) (F H : Hp) (a : Addr) : Ow → Prop
  | .lst ds => ∃ vs, H a = some (.lst vs) ∧ RepL K F ds vs
  | .obj C ns ds => ∃ dx us, H a = some (.ins C dx (ns.zip us)) ∧ H dx = some (.own a) ∧ ns.length = us.length ∧ RepL K F ds us
def SlOK (K : PySem.W.Frag) (F H : Hp) (v : Option V) : Sl → Prop
  | .un => True
  | .fr d => ∃ x, v = some x ∧ Rep K F d x
  | .ow o => ∃ a, v = some (.ref a) ∧ OwAt K F H a o
theorem OwAt.some {K : PySem.W.Frag} {F H : Hp} {a : Addr} {o : Ow} (h : OwAt K F H a o) : ∃ u, H a = some u := by
  cases o with
  | lst ds => obtain ⟨vs, e, _⟩ := h; exact ⟨_, e⟩
  | obj C ns ds => obtain ⟨dx, us, e, _⟩ := h; exact ⟨_, e⟩
theorem OwAt.mono {K : PySem.W.Frag} {F F' H H' : Hp} {a : Addr} {o : Ow} (h : OwAt K F H a o) (e : Ex F F') (e' : Ex H H') : OwAt K F' H' a o := by
  cases o with
  | lst ds => obtain ⟨vs, h1, h2⟩ := h; exact ⟨vs, e' _ _ h1, h2.mono e⟩
  | obj C ns ds => obtain ⟨dx, us, h1, h2, h3, h4⟩ := h; exact ⟨dx, us, e' _ _ h1, e' _ _ h2, h3, h4.mono e⟩

theorem OwAt.not_own {K : PySem.W.Frag} {F H : Hp} {a x : Addr} {o : Ow} (h : OwAt K F H a o) (e : H a = .some (.own x)) : False := by
  cases o with
  | lst ds => obtain ⟨vs, h1, h2⟩ := h; rw [e] at h1; cases h1
  | obj C ns ds => obtain ⟨dx, us, h1, h2, h3, h4⟩ := h; rw [e] at h1; cases h1

/-- what is fixed through a frame: the frozen heap and the heap at its entry, the address that it may change for its caller -/
structure Cz where
  K : PySem.W.Frag
  F0 : Hp
  H0 : Hp
  io : Option Addr

structure Sta (z : Cz) (F H : Hp) (ρ : List Sl) (σ : L2.St) : Prop where
  fh : Ex F H
  f0 : Ex z.F0 F
  nw : ∀ a o, F a = some o → z.F0 a = some o ∨ z.H0 a = none ∨ ∃ x, o = .own x
  kp : ∀ a o, z.H0 a = some o → z.io ≠ some a → H a = some o
  al : ∀ a, z.H0 a ≠ none → H a ≠ none
  len : ρ.length = σ.length
  sl : ∀ (i : Nat) (s : Sl), ρ[i]? = some s → ∃ v, σ[i]? = some v ∧ SlOK z.K F H v s
  ap : ∀ (i j : Nat) (o o' : Ow) (a : Addr), i ≠ j → ρ[i]? = some (.ow o) → ρ[j]? = some (.ow o') → σ[i]? = some (some (.ref a)) → σ[j]? ≠ some (some (.ref a))
  rf : ∀ (i : Nat) (o : Ow) (a : Addr), ρ[i]? = some (.ow o) → σ[i]? = some (some (.ref a)) → F a = none ∧ (z.io = some a ∨ z.H0 a = none)
  ioz : ∀ a, z.io = some a → ∃ o, ρ[0]? = some (.ow o) ∧ σ[0]? = some (some (.ref a))

/-- a result's value -/
def ResOK (z : Cz) (F H : Hp) (ρ : List Sl) (σ : L2.St) (v : V) : Res → Prop
  | .fr d => Rep z.K F d v
  | .ow o => ∃ a, v = .ref a ∧ OwAt z.K F H a o ∧ F a = none ∧ z.H0 a = none ∧ ∀ (i : Nat) (o' : Ow), ρ[i]? = some (.ow o') → σ[i]? ≠ some (some (.ref a))
  | .sl j => σ[j]? = some (some v) ∧ ∃ s, ρ[j]? = some s

section
variable {z : Cz} {F F' H H' : Hp} {ρ : List Sl} {σ : L2.St} {p a : Addr} {vs : List V} {ds : List D}

/-- the heap grows, the frozen one too -/
theorem Sta.grow (S : Sta z F H ρ σ) (e : Ex F F') (e' : Ex H H') (eh : Ex F' H') (n : ∀ a o, F' a = some o → F a = some o ∨ H a = none ∨ ∃ x, o = .own x) : Sta z F' H' ρ σ where
  fh := eh
  f0 := S.f0.trans e
  nw := fun a o h => (n a o h).elim (S.nw a o) fun h => h.elim (fun h => .inr (.inl (Classical.byContradiction fun q => S.al a q h))) fun h => .inr (.inr h)
  kp := fun a o h q => e' a o (S.kp a o h q)
  al := fun a h q => by
    cases k : H a with
    | none => exact S.al a h k
    | some o => rw [e' a o k] at q; cases q
  len := S.len
  sl := fun i s h => by
    obtain ⟨v, hv, q⟩ := S.sl i s h
    refine ⟨v, hv, ?_⟩
    cases s with
    | un => trivial
    | fr d => obtain ⟨x, e1, r⟩ := q; exact ⟨x, e1, r.mono e⟩
    | ow o => obtain ⟨x, e1, r⟩ := q; exact ⟨x, e1, r.mono e e'⟩
  ap := S.ap
  rf := fun i o a h h' => by
    obtain ⟨h1, h2⟩ := S.rf i o a h h'
    refine ⟨?_, h2⟩
    cases k : F' a with
    | none => rfl
    | some u =>
      obtain ⟨v, hv, q⟩ := S.sl i _ h
      rw [h'] at hv
      obtain ⟨b, e1, r⟩ := q
      rw [← Option.some.inj hv] at e1
      cases e1
      obtain ⟨u', e2⟩ := r.some
      rcases n _ _ k with k' | k' | ⟨x, k'⟩
      · rw [h1] at k'; cases k'
      · rw [e2] at k'; cases k'
      · have e3 := (r.mono e e')
        subst k'
        exact (e3.not_own (eh _ _ k)).elim
  ioz := S.ioz
/-- a new frozen object -/
theorem Sta.newF (S : Sta z F H ρ σ) (hp : H p = none) (o : HO) : Sta z (upd F p o) (upd H p o) ρ σ := by
  have fp : F p = none := by
    cases k : F p with
    | none => rfl
    | some u => rw [S.fh p u k] at hp; cases hp
  refine S.grow (Ex.new fp) (Ex.new hp) (fun a u h => ?_) fun a u h => ?_
  · by_cases e : a = p
    · subst e; rw [upd_same] at h ⊢; exact h
    · rw [upd_ne e] at h ⊢; exact S.fh a u h
  · by_cases e : a = p
    · subst e; exact .inr (.inl hp)
    · rw [upd_ne e] at h; exact .inl h
/-- a new object of the frame's own -/
theorem Sta.newH (S : Sta z F H ρ σ) (hp : H p = none) (o : HO) : Sta z F (upd H p o) ρ σ :=
  S.grow (Ex.refl F) (Ex.new hp) (S.fh.trans (Ex.new hp)) fun a u h => .inl h
theorem Sta.fz (S : Sta z F H ρ σ) (hp : H p = none) : F p = none := by
  cases k : F p with
  | none => rfl
  | some u => rw [S.fh p u k] at hp; cases hp
theorem Sta.h0 (S : Sta z F H ρ σ) (hp : H p = none) : z.H0 p = none := Classical.byContradiction fun q => S.al p q hp
theorem Sta.far (S : Sta z F H ρ σ) (hp : H p = none) : ∀ (i : Nat) (o' : Ow), ρ[i]? = some (.ow o') → σ[i]? ≠ some (some (.ref p)) := fun i o' h h' => by
  obtain ⟨v, hv, b, e1, r⟩ := S.sl i _ h
  rw [h'] at hv
  rw [← Option.some.inj hv] at e1
  cases e1
  obtain ⟨u, e⟩ := r.some
  rw [hp] at e
  cases e
/-- a result grows with the heap -/
theorem ResOK.grow {v : V} {r : Res} (S : Sta z F H ρ σ) (h : ResOK z F H ρ σ v r) (e : Ex F F') (e' : Ex H H') (eh : Ex F' H') (n : ∀ a o, F' a = some o → F a = some o ∨ H a = none ∨ ∃ x, o = .own x) : ResOK z F' H' ρ σ v r := by
  cases r with
  | fr d => exact Rep.mono e h
  | ow o =>
    obtain ⟨a, e1, h1, h2, h3, h4⟩ := h
    refine ⟨a, e1, h1.mono e e', ?_, h3, h4⟩
    cases k : F' a with
    | none => rfl
    | some u =>
      obtain ⟨u', e2⟩ := h1.some
      rcases n _ _ k with k' | k' | ⟨x, k'⟩
      · rw [h2] at k'; cases k'
      · rw [e2] at k'; cases k'
      · subst k'
        exact ((h1.mono e e').not_own (eh _ _ k)).elim
  | sl j => exact h

/-- freezing: what stands at a becomes a part of F -/
def frz (F H : Hp) (a : Addr) : Hp := match H a with
  | some (.lst vs) => upd F a (.lst vs)
  | some (.ins C dx us) => upd (upd F dx (.own a)) a (.ins C dx us)
  | _ => F
theorem frz_rep {K : PySem.W.Frag} {o : Ow} (ex : Ex F H) (h : OwAt K F H a o) (fa : F a = none) : Rep K (frz F H a) o.fz (.ref a) ∧ Ex F (frz F H a) ∧ Ex (frz F H a) H ∧ ∀ b u, frz F H a b = some u → b ≠ a → F b = some u ∨ u = .own a := by
  cases o with
  | lst ds =>
    obtain ⟨vs, h1, h2⟩ := h
    have e : frz F H a = upd F a (.lst vs) := by unfold frz; rw [h1]
    rw [e]
    refine ⟨rep_lst.mpr ⟨a, vs, rfl, upd_same, h2.mono (Ex.new fa)⟩, Ex.new fa, fun b u q => ?_, fun b u q nb => ?_⟩
    · by_cases eb : b = a
      · subst eb; rw [upd_same] at q; rw [← q]; exact h1
      · rw [upd_ne eb] at q; exact ex b u q
    · rw [upd_ne nb] at q; exact .inl q
  | obj C ns ds =>
    obtain ⟨dx, us, h1, h2, h3, h4⟩ := h
    have e : frz F H a = upd (upd F dx (.own a)) a (.ins C dx (ns.zip us)) := by unfold frz; rw [h1]
    have ne : a ≠ dx := fun z => by rw [← z, h1] at h2; cases h2
    have e1 : Ex F (upd (upd F dx (.own a)) a (.ins C dx (ns.zip us))) := fun b u q => by
      have nb : b ≠ a := fun z => by rw [z, fa] at q; cases q
      rw [upd_ne nb]
      by_cases ed : b = dx
      · subst ed; rw [ex b u q] at h2; rw [upd_same, ← h2]
      · rw [upd_ne ed]; exact q
    rw [e]
    refine ⟨rep_obj.mpr ⟨a, dx, us, rfl, upd_same, by rw [upd_ne ne.symm, upd_same], h3, h4.mono e1⟩, e1, fun b u q => ?_, fun b u q nb => ?_⟩
    · by_cases eb : b = a
      · subst eb; rw [upd_same] at q; rw [← q]; exact h1
      · rw [upd_ne eb] at q
        by_cases ed : b = dx
        · subst ed; rw [upd_same] at q; rw [← q]; exact h2
        · rw [upd_ne ed] at q; exact ex b u q
    · rw [upd_ne nb] at q
      by_cases ed : b = dx
      · subst ed; rw [upd_same] at q; exact .inr (Option.some.inj q).symm
      · rw [upd_ne ed] at q; exact .inl q
end
end DL
end
section
set_option Elab.async false
set_option linter.all false
set_option maxRecDepth 100000
set_option maxHeartbeats 4000000
/-! DL2: moves of the state; judgements over data: PD (expressions), PDT (tests), PDA (arguments), PDS (statements). -/
namespace DL
open PySem PySem.Spec PyProof.Rows L2 Evl
section
variable {z : Cz} {F F' H H' : Hp} {ρ : List Sl} {σ : L2.St} {p a : Addr} {vs : List V} {ds : List D} {v : V} {r : Res} {o : Ow} {i j : Nat}

/-- what stands at a free-standing owned address is frozen -/
theorem Sta.frzA (S : Sta z F H ρ σ) (h : OwAt z.K F H a o) (fa : F a = none) (h0 : z.H0 a = none) (far : ∀ (i : Nat) (o' : Ow), ρ[i]? = some (.ow o') → σ[i]? ≠ some (some (.ref a))) : Sta z (frz F H a) H ρ σ := by
  obtain ⟨r1, r2, r3, r4⟩ := frz_rep S.fh h fa
  refine ⟨r3, S.f0.trans r2, fun b u q => ?_, S.kp, S.al, S.len, fun i s q => ?_, S.ap, fun i o' b q q' => ?_, S.ioz⟩
  · by_cases e : b = a
    · subst e; exact .inr (.inl h0)
    · rcases r4 b u q e with q | q
      · exact S.nw b u q
      · exact .inr (.inr ⟨a, q⟩)
  · obtain ⟨w, hw, q⟩ := S.sl i s q
    refine ⟨w, hw, ?_⟩
    cases s with
    | un => trivial
    | fr d => obtain ⟨x, e1, r⟩ := q; exact ⟨x, e1, r.mono r2⟩
    | ow o => obtain ⟨x, e1, r⟩ := q; exact ⟨x, e1, r.mono r2 (Ex.refl H)⟩
  · obtain ⟨h1, h2⟩ := S.rf i o' b q q'
    refine ⟨?_, h2⟩
    have ne : b ≠ a := fun e => far i o' q (by rw [q', e])
    cases k : frz F H a b with
    | none => rfl
    | some u =>
      rcases r4 b u k ne with k' | k'
      · rw [h1] at k'; cases k'
      · subst k'
        obtain ⟨w, hw, q2⟩ := S.sl i _ q
        obtain ⟨c, e1, r⟩ := q2
        rw [q'] at hw
        rw [← Option.some.inj hw] at e1
        cases e1
        exact (r.not_own (r3 _ _ k)).elim
/-- an owned slot is forgotten -/
theorem Sta.drop (S : Sta z F H ρ σ) (j : Nat) (hj : z.io = none ∨ j ≠ 0) : Sta z F H (ρ.set j .un) σ := by
  refine ⟨S.fh, S.f0, S.nw, S.kp, S.al, by rw [List.length_set]; exact S.len, fun i s q => ?_, fun i k o1 o2 b ne q1 q2 => ?_, fun i o' b q => ?_, fun b q => ?_⟩
  · by_cases e : i = j
    · subst e
      have hi : i < ρ.length := by
        by_cases hi : i < ρ.length
        · exact hi
        · rw [List.getElem?_eq_none (by rw [List.length_set]; omega)] at q; cases q
      rw [List.getElem?_set_self hi] at q
      rw [← Option.some.inj q]
      exact ⟨σ[i]'(by rw [← S.len]; exact hi), List.getElem?_eq_getElem _, trivial⟩
    · rw [List.getElem?_set_ne (Ne.symm e)] at q
      exact S.sl i s q
  · have n1 : i ≠ j := fun e => by
      subst e
      by_cases hi : i < ρ.length
      · rw [List.getElem?_set_self hi] at q1; cases q1
      · rw [List.getElem?_eq_none (by rw [List.length_set]; omega)] at q1; cases q1
    have n2 : k ≠ j := fun e => by
      subst e
      by_cases hi : k < ρ.length
      · rw [List.getElem?_set_self hi] at q2; cases q2
      · rw [List.getElem?_eq_none (by rw [List.length_set]; omega)] at q2; cases q2
    rw [List.getElem?_set_ne (Ne.symm n1)] at q1
    rw [List.getElem?_set_ne (Ne.symm n2)] at q2
    exact S.ap i k o1 o2 b ne q1 q2
  · have n1 : i ≠ j := fun e => by
      subst e
      by_cases hi : i < ρ.length
      · rw [List.getElem?_set_self hi] at q; cases q
      · rw [List.getElem?_eq_none (by rw [List.length_set]; omega)] at q; cases q
    rw [List.getElem?_set_ne (Ne.symm n1)] at q
    exact S.rf i o' b q
  · rcases hj with hj | hj
    · rw [hj] at q; cases q
    · rw [List.getElem?_set_ne hj]
      exact S.ioz b q
/-- a value is stored at a slot -/
theorem Sta.putF {d : D} (S : Sta z F H ρ σ) (h : Rep z.K F d v) (hj : z.io = none ∨ j ≠ 0) : Sta z F H (ρ.set j (.fr d)) (σ.set j (some v)) := by
  have S1 := S.drop j hj
  refine ⟨S.fh, S.f0, S.nw, S.kp, S.al, by rw [List.length_set, List.length_set]; exact S.len, fun i s q => ?_, fun i k o1 o2 b ne q1 q2 => ?_, fun i o' b q => ?_, fun b q => ?_⟩
  · by_cases e : i = j
    · subst e
      by_cases hi : i < ρ.length
      · rw [List.getElem?_set_self hi] at q
        rw [← Option.some.inj q]
        exact ⟨some v, List.getElem?_set_self (by rw [← S.len]; exact hi), v, rfl, h⟩
      · rw [List.getElem?_eq_none (by rw [List.length_set]; omega)] at q; cases q
    · rw [List.getElem?_set_ne (Ne.symm e)] at q
      rw [List.getElem?_set_ne (Ne.symm e)]
      exact S.sl i s q
  · have n1 : i ≠ j := fun e => by
      subst e
      by_cases hi : i < ρ.length
      · rw [List.getElem?_set_self hi] at q1; cases q1
      · rw [List.getElem?_eq_none (by rw [List.length_set]; omega)] at q1; cases q1
    have n2 : k ≠ j := fun e => by
      subst e
      by_cases hi : k < ρ.length
      · rw [List.getElem?_set_self hi] at q2; cases q2
      · rw [List.getElem?_eq_none (by rw [List.length_set]; omega)] at q2; cases q2
    rw [List.getElem?_set_ne (Ne.symm n1)] at q1
    rw [List.getElem?_set_ne (Ne.symm n2)] at q2
    rw [List.getElem?_set_ne (Ne.symm n1), List.getElem?_set_ne (Ne.symm n2)]
    exact S.ap i k o1 o2 b ne q1 q2
  · have n1 : i ≠ j := fun e => by
      subst e
      by_cases hi : i < ρ.length
      · rw [List.getElem?_set_self hi] at q; cases q
      · rw [List.getElem?_eq_none (by rw [List.length_set]; omega)] at q; cases q
    rw [List.getElem?_set_ne (Ne.symm n1)] at q
    rw [List.getElem?_set_ne (Ne.symm n1)]
    exact S.rf i o' b q
  · rcases hj with hj | hj
    · rw [hj] at q; cases q
    · rw [List.getElem?_set_ne hj, List.getElem?_set_ne hj]
      exact S.ioz b q
/-- an owned thing is stored at a slot -/
theorem Sta.putO (S : Sta z F H ρ σ) (h : OwAt z.K F H a o) (fa : F a = none) (h0 : z.H0 a = none) (far : ∀ (i : Nat) (o' : Ow), ρ[i]? = some (.ow o') → σ[i]? ≠ some (some (.ref a))) (hj : z.io = none ∨ j ≠ 0) :
    Sta z F H (ρ.set j (.ow o)) (σ.set j (some (.ref a))) := by
  have S1 := S.drop j hj
  refine ⟨S.fh, S.f0, S.nw, S.kp, S.al, by rw [List.length_set, List.length_set]; exact S.len, fun i s q => ?_, fun i k o1 o2 b ne q1 q2 => ?_, fun i o' b q => ?_, fun b q => ?_⟩
  · by_cases e : i = j
    · subst e
      by_cases hi : i < ρ.length
      · rw [List.getElem?_set_self hi] at q
        rw [← Option.some.inj q]
        exact ⟨some (.ref a), List.getElem?_set_self (by rw [← S.len]; exact hi), a, rfl, h⟩
      · rw [List.getElem?_eq_none (by rw [List.length_set]; omega)] at q; cases q
    · rw [List.getElem?_set_ne (Ne.symm e)] at q
      rw [List.getElem?_set_ne (Ne.symm e)]
      exact S.sl i s q
  · by_cases e1 : i = j
    · have e2 : k ≠ j := fun e => ne (e1.trans e.symm)
      have hi : i < σ.length := by
        by_cases hi : i < ρ.length
        · rw [← S.len]; exact hi
        · rw [List.getElem?_eq_none (by rw [List.length_set]; omega)] at q1; cases q1
      rw [List.getElem?_set_ne (Ne.symm e2)] at q2
      subst e1
      rw [List.getElem?_set_self hi, List.getElem?_set_ne (Ne.symm e2)]
      intro q3
      have e4 : a = b := by cases q3; rfl
      subst e4
      exact far k o2 q2
    · rw [List.getElem?_set_ne (Ne.symm e1)] at q1
      rw [List.getElem?_set_ne (Ne.symm e1)]
      by_cases e2 : k = j
      · have hk : k < σ.length := by
          by_cases hi : k < ρ.length
          · rw [← S.len]; exact hi
          · rw [List.getElem?_eq_none (by rw [List.length_set]; omega)] at q2; cases q2
        subst e2
        rw [List.getElem?_set_self hk]
        intro q3 q4
        have e4 : a = b := by cases q4; rfl
        subst e4
        exact far i o1 q1 q3
      · rw [List.getElem?_set_ne (Ne.symm e2)] at q2
        rw [List.getElem?_set_ne (Ne.symm e2)]
        exact S.ap i k o1 o2 b ne q1 q2
  · by_cases e1 : i = j
    · subst e1
      have hi : i < σ.length := by
        by_cases hi : i < ρ.length
        · rw [← S.len]; exact hi
        · rw [List.getElem?_eq_none (by rw [List.length_set]; omega)] at q; cases q
      rw [List.getElem?_set_self hi]
      intro q3
      have e4 : a = b := by cases q3; rfl
      subst e4
      exact ⟨fa, .inr h0⟩
    · rw [List.getElem?_set_ne (Ne.symm e1)] at q
      rw [List.getElem?_set_ne (Ne.symm e1)]
      exact S.rf i o' b q
  · rcases hj with hj | hj
    · rw [hj] at q; cases q
    · rw [List.getElem?_set_ne hj, List.getElem?_set_ne hj]
      exact S.ioz b q
/-- an owned slot is frozen where it stands -/
theorem Sta.frzS (S : Sta z F H ρ σ) (hj : z.io = none ∨ j ≠ 0) (h : ρ[j]? = some (.ow o)) (hv : σ[j]? = some (some v)) : ∃ F', Ex F F' ∧ Sta z F' H (ρ.set j (.fr o.fz)) σ ∧ Rep z.K F' o.fz v := by
  obtain ⟨w, hw, b, e1, q⟩ := S.sl j _ h
  rw [hv] at hw
  rw [← Option.some.inj hw] at e1
  have e2 : v = .ref b := Option.some.inj e1
  subst e2
  obtain ⟨fb, hb⟩ := S.rf j o b h hv
  have h0 : z.H0 b = none := by
    rcases hb with hb | hb
    · rcases hj with hj | hj
      · rw [hj] at hb; cases hb
      · obtain ⟨o', g1, g2⟩ := S.ioz b hb
        exact (S.ap 0 j o' o b (Ne.symm hj) g1 h g2 hv).elim
    · exact hb
  have S1 := S.drop j hj
  have far : ∀ (i : Nat) (o' : Ow), (ρ.set j Sl.un)[i]? = some (.ow o') → σ[i]? ≠ some (some (.ref b)) := fun i o' q1 => by
    by_cases e : i = j
    · subst e
      by_cases hi : i < ρ.length
      · rw [List.getElem?_set_self hi] at q1; cases q1
      · rw [List.getElem?_eq_none (by rw [List.length_set]; omega)] at q1; cases q1
    · rw [List.getElem?_set_ne (Ne.symm e)] at q1
      exact fun q2 => S.ap i j o' o b e q1 h q2 hv
  obtain ⟨r1, r2, r3, r4⟩ := frz_rep S.fh q fb
  have S2 := S1.frzA q fb h0 far
  have S3 := S2.putF (j := j) r1 hj
  rw [List.set_set] at S3
  have e3 : σ.set j (some (.ref b)) = σ := by
    apply List.ext_getElem?
    intro k
    by_cases e : k = j
    · subst e
      have hk : k < σ.length := (List.getElem?_eq_some_iff.mp hv).1
      rw [List.getElem?_set_self hk, hv]
    · rw [List.getElem?_set_ne (Ne.symm e)]
  rw [e3] at S3
  exact ⟨_, r2, S3, r1⟩
/-- an owned list gets another content -/
theorem Sta.mutA {u u' : HO} {o' : Ow} (S : Sta z F H ρ σ) (h : ρ[j]? = some (.ow o)) (hv : σ[j]? = some (some (.ref a))) (hu : H a = some u) (nu : ∀ x, u ≠ .own x) (hn : ∀ b, H b = some (.own a) → b ≠ a) (q : OwAt z.K F (upd H a u') a o') : Sta z F (upd H a u') (ρ.set j (.ow o')) σ := by
  obtain ⟨fa, hio⟩ := S.rf j o a h hv
  have hk : j < ρ.length := (List.getElem?_eq_some_iff.mp h).1
  refine ⟨fun b w k => ?_, S.f0, S.nw, fun b w k n => ?_, fun b k => ?_, by rw [List.length_set]; exact S.len, fun i s k => ?_, fun i k o1 o2 b ne q1 q2 => ?_, fun i o1 b q1 => ?_, fun b k => ?_⟩
  · rw [upd_ne (fun e => by rw [e, fa] at k; cases k)]; exact S.fh b w k
  · have nb : b ≠ a := fun e => by
      subst e
      rcases hio with hio | hio
      · exact n hio
      · rw [hio] at k; cases k
    rw [upd_ne nb]; exact S.kp b w k n
  · by_cases e : b = a
    · subst e; rw [upd_same]; exact fun e => nomatch e
    · rw [upd_ne e]; exact S.al b k
  · by_cases e : i = j
    · subst e
      rw [List.getElem?_set_self hk] at k
      rw [← Option.some.inj k]
      exact ⟨_, hv, a, rfl, q⟩
    · rw [List.getElem?_set_ne (Ne.symm e)] at k
      obtain ⟨w, hw, q2⟩ := S.sl i s k
      refine ⟨w, hw, ?_⟩
      cases s with
      | un => trivial
      | fr d => exact q2
      | ow o1 =>
        obtain ⟨b, e1, q3⟩ := q2
        refine ⟨b, e1, ?_⟩
        subst e1
        have nb : b ≠ a := fun e2 => S.ap i j o1 o b e k h hw (by rw [e2]; exact hv)
        cases o1 with
        | lst ds => obtain ⟨vs, g1, g2⟩ := q3; exact ⟨vs, by rw [upd_ne nb]; exact g1, g2⟩
        | obj C ns ds =>
          obtain ⟨dx, us, g1, g2, g3, g4⟩ := q3
          exact ⟨dx, us, by rw [upd_ne nb]; exact g1, by rw [upd_ne (fun e2 => by rw [e2, hu] at g2; exact nu _ (Option.some.inj g2))]; exact g2, g3, g4⟩
  · by_cases e1 : i = j
    · subst e1
      have e2 : k ≠ i := fun e => ne e.symm
      rw [List.getElem?_set_ne (Ne.symm e2)] at q2
      exact fun q3 => S.ap i k o o2 b ne h q2 q3
    · rw [List.getElem?_set_ne (Ne.symm e1)] at q1
      by_cases e2 : k = j
      · subst e2
        exact fun q3 => S.ap i k o1 o b ne q1 h q3
      · rw [List.getElem?_set_ne (Ne.symm e2)] at q2
        exact S.ap i k o1 o2 b ne q1 q2
  · by_cases e1 : i = j
    · subst e1
      exact fun q3 => S.rf i o b h q3
    · rw [List.getElem?_set_ne (Ne.symm e1)] at q1
      exact S.rf i o1 b q1
  · obtain ⟨o1, g1, g2⟩ := S.ioz b k
    by_cases e : j = 0
    · subst e
      exact ⟨o', List.getElem?_set_self hk, g2⟩
    · exact ⟨o1, by rw [List.getElem?_set_ne e]; exact g1, g2⟩

/-- an option that must be there; a truth value that must hold (both reduce away where they are written) -/
def ob {α : Type} (o : Option α) (k : α → Prop) : Prop := match o with
  | some a => k a
  | none => False
theorem ob_iff {α : Type} {o : Option α} {k : α → Prop} : ob o k ↔ ∃ a, o = some a ∧ k a := by
  cases o with
  | none => exact ⟨fun h => h.elim, fun ⟨a, e, _⟩ => nomatch e⟩
  | some a => exact ⟨fun h => ⟨a, rfl, h⟩, fun ⟨b, e, h⟩ => by cases e; exact h⟩
theorem ob_some {α : Type} {o : Option α} {k : α → Prop} {a : α} (e : o = some a) (h : k a) : ob o k := ob_iff.mpr ⟨a, e, h⟩
def obB (c : Bool) (P : Prop) : Prop := match c with
  | true => P
  | false => False
theorem obB_iff {c : Bool} {P : Prop} : obB c P ↔ c = true ∧ P := by
  cases c with
  | false => exact ⟨fun h => h.elim, fun h => nomatch h.1⟩
  | true => exact ⟨fun h => ⟨rfl, h⟩, fun h => h.2⟩
/-- a slot that may be stored to -/
def okB (b : Bool) (i : Nat) : Bool := match b, i with
  | false, _ => true
  | true, 0 => false
  | true, _ + 1 => true
theorem okB_iff {b : Bool} {i : Nat} (h : okB b i = true) : b = false ∨ i ≠ 0 := by
  cases b with
  | false => exact .inl rfl
  | true => cases i with
    | zero => cases h
    | succ i => exact .inr (Nat.succ_ne_zero i)
def asB : Res → Option Bool
  | .fr (.bl c) => some c
  | _ => none
def asI : Res → Option Int
  | .fr (.int c) => some c
  | _ => none
theorem asB_ok {r : Res} {c : Bool} (h : asB r = some c) : r = .fr (.bl c) := by
  cases r with
  | fr d => cases d with
    | bl b => cases h; rfl
    | _ => cases h
  | _ => cases h
theorem asI_ok {r : Res} {c : Int} (h : asI r = some c) : r = .fr (.int c) := by
  cases r with
  | fr d => cases d with
    | int b => cases h; rfl
    | _ => cases h
  | _ => cases h

/-! ### operands -/
/-- what is seen of an operand -/
def vw (ρ : List Sl) : Res → Option D
  | .fr d => some d
  | .ow o => some o.fz
  | .sl j => match ρ[j]? with
    | some (.fr d) => some d
    | some (.ow o) => some o.fz
    | _ => none
/-- what is kept of an operand while the next one is looked at -/
def Held (K : PySem.W.Frag) (F : Hp) (σ : L2.St) (v : V) : Res → Prop
  | .fr d => Rep K F d v
  | .ow o => Rep K F o.fz v
  | .sl j => σ[j]? = some (some v)
theorem Held.mono {K : PySem.W.Frag} (h : Held K F σ v r) (e : Ex F F') : Held K F' σ v r := by
  cases r with
  | fr d => exact Rep.mono e h
  | ow o => exact Rep.mono e h
  | sl j => exact h
/-- an operand: what stands outermost is read off H -/
def RepH (K : PySem.W.Frag) (F H : Hp) (d : D) (v : V) : Prop := match d with
  | .lst ds => ∃ a vs, v = .ref a ∧ H a = some (.lst vs) ∧ RepL K F ds vs
  | .rl ds => ∃ a vs, v = .ref a ∧ SqL K H a vs ∧ RepL K F ds vs
  | .obj C ns ds => ∃ a dx us, v = .ref a ∧ H a = some (.ins C dx (ns.zip us)) ∧ H dx = some (.own a) ∧ ns.length = us.length ∧ RepL K F ds us
  | d => Rep K F d v
theorem repH {K : PySem.W.Frag} {d : D} (e : Ex F H) (h : Rep K F d v) : RepH K F H d v := by
  cases d with
  | lst ds =>
    obtain ⟨a, vs, h1, h2, h3⟩ := rep_lst.mp h
    exact ⟨a, vs, h1, e _ _ h2, h3⟩
  | rl ds =>
    obtain ⟨a, vs, h1, h2, h3⟩ := rep_rl.mp h
    exact ⟨a, vs, h1, ex_l e h2, h3⟩
  | obj C ns ds =>
    obtain ⟨a, dx, us, h1, h2, h3, h4, h5⟩ := rep_obj.mp h
    exact ⟨a, dx, us, h1, e _ _ h2, e _ _ h3, h4, h5⟩
  | _ => exact h
theorem repHO {K : PySem.W.Frag} {o : Ow} (h : OwAt K F H a o) : RepH K F H o.fz (.ref a) := by
  cases o with
  | lst ds => obtain ⟨vs, h1, h2⟩ := h; exact ⟨a, vs, rfl, h1, h2⟩
  | obj C ns ds => obtain ⟨dx, us, h1, h2, h3, h4⟩ := h; exact ⟨a, dx, us, rfl, h1, h2, h3, h4⟩
theorem Sta.hold (S : Sta z F H ρ σ) (h : ResOK z F H ρ σ v r) : ∃ F', Ex F F' ∧ Sta z F' H ρ σ ∧ Held z.K F' σ v r := by
  cases r with
  | fr d => exact ⟨F, Ex.refl F, S, h⟩
  | ow o =>
    obtain ⟨a, rfl, h1, h2, h3, h4⟩ := h
    obtain ⟨r1, r2, r3, r4⟩ := frz_rep S.fh h1 h2
    exact ⟨_, r2, S.frzA h1 h2 h3 h4, r1⟩
  | sl j => exact ⟨F, Ex.refl F, S, h.1⟩
theorem Sta.see {d : D} (S : Sta z F H ρ σ) (h : Held z.K F σ v r) (e : vw ρ r = some d) : RepH z.K F H d v := by
  cases r with
  | fr d' => cases e; exact repH S.fh h
  | ow o => cases e; exact repH S.fh h
  | sl j =>
    have h1 : σ[j]? = some (some v) := h
    cases q : ρ[j]? with
    | none => simp only [vw, q] at e; cases e
    | some s =>
      simp only [vw, q] at e
      obtain ⟨w, hw, k⟩ := S.sl j s q
      rw [h1] at hw
      cases s with
      | un => cases e
      | fr d' =>
        cases e
        obtain ⟨x, e1, k⟩ := k
        rw [← Option.some.inj hw] at e1
        cases e1
        exact repH S.fh k
      | ow o =>
        cases e
        obtain ⟨b, e1, k⟩ := k
        rw [← Option.some.inj hw] at e1
        cases e1
        exact repHO k
/-- a result is frozen for good (for a store into data, for a call) -/
def fx (io : Bool) (ρ : List Sl) (r : Res) (Q : D → List Sl → Prop) : Prop := match r with
  | .fr d => Q d ρ
  | .ow o => Q o.fz ρ
  | .sl j => match ρ[j]? with
    | some (.fr d) => Q d ρ
    | some (.ow o) => obB (okB io j) (Q o.fz (ρ.set j (.fr o.fz)))
    | _ => False
theorem Sta.fix {b : Bool} {Q : D → List Sl → Prop} (hb : z.io.isSome = b) (S : Sta z F H ρ σ) (h : ResOK z F H ρ σ v r) (q : fx b ρ r Q) : ∃ F' ρ' d, Ex F F' ∧ Sta z F' H ρ' σ ∧ Rep z.K F' d v ∧ Q d ρ' := by
  cases r with
  | fr d => exact ⟨F, ρ, d, Ex.refl F, S, h, q⟩
  | ow o =>
    obtain ⟨a, rfl, h1, h2, h3, h4⟩ := h
    obtain ⟨r1, r2, r3, r4⟩ := frz_rep S.fh h1 h2
    exact ⟨_, ρ, o.fz, r2, S.frzA h1 h2 h3 h4, r1, q⟩
  | sl j =>
    have h1 : σ[j]? = some (some v) := h.1
    unfold fx at q
    cases k : ρ[j]? with
    | none => simp only [k] at q
    | some s =>
      cases s with
      | un => simp only [k] at q
      | fr d =>
        simp only [k] at q
        obtain ⟨w, hw, x, e1, k2⟩ := S.sl j _ k
        rw [h1] at hw
        rw [← Option.some.inj hw] at e1
        cases e1
        exact ⟨F, ρ, d, Ex.refl F, S, k2, q⟩
      | ow o =>
        simp only [k] at q
        obtain ⟨q1, q2⟩ := obB_iff.mp q
        replace q1 := okB_iff q1
        have hj : z.io = none ∨ j ≠ 0 := by
          rcases q1 with q1 | q1
          · subst q1
            left
            cases e : z.io with
            | none => rfl
            | some a => rw [e] at hb; cases hb
          · exact .inr q1
        obtain ⟨F', e, S', r⟩ := S.frzS hj k h1
        exact ⟨F', _, _, e, S', r, q2⟩
end
end DL
end
section
set_option Elab.async false
set_option linter.all false
set_option maxRecDepth 100000
set_option maxHeartbeats 4000000
/-! DL3: the judgements over data and the rules for expressions, tests, arguments. -/
namespace DL
open PySem PySem.Spec PyProof.Rows L2 Evl

abbrev Ro := List Sl
theorem res_bl {z : Cz} {F H : Hp} {ρ : List Sl} {σ : L2.St} {v : V} {c : Bool} (h : ResOK z F H ρ σ v (.fr (.bl c))) : v = .bl c := (rep_bl (K := z.K) (F := F)).mp h
theorem res_int {z : Cz} {F H : Hp} {ρ : List Sl} {σ : L2.St} {v : V} {c : Int} (h : ResOK z F H ρ σ v (.fr (.int c))) : v = .int c := (rep_int (K := z.K) (F := F)).mp h
abbrev DE := Ro → (Res → Ro → Prop) → Prop
abbrev DT := Ro → (Bool → Ro → Prop) → Prop
abbrev DA := Ro → (List D → Ro → Prop) → Prop

def DV (z : Cz) (te : TE) (t : DE) : Prop := ∀ F H ρ σ (Q : Res → Ro → Prop) (R : VK), Sta z F H ρ σ → t ρ Q → (∀ v H' F' ρ' r, Ex F F' → Sta z F' H' ρ' σ → ResOK z F' H' ρ' σ v r → Q r ρ' → R v H') → te σ H R
def DVT (z : Cz) (te : TT) (t : DT) : Prop := ∀ F H ρ σ (Q : Bool → Ro → Prop) (R : Bool → Hp → Prop), Sta z F H ρ σ → t ρ Q → (∀ b H' F' ρ', Ex F F' → Sta z F' H' ρ' σ → Q b ρ' → R b H') → te σ H R
def DVA (z : Cz) (te : TA) (t : DA) : Prop := ∀ F H ρ σ (Q : List D → Ro → Prop) (R : List V → Hp → Prop), Sta z F H ρ σ → t ρ Q → (∀ vs H' F' ρ' ds, Ex F F' → Sta z F' H' ρ' σ → RepL z.K F' ds vs → Q ds ρ' → R vs H') → te σ H R
/-- the context's states: of this K, with or without an address to change -/
structure At (X : Cx) (b : Bool) (z : Cz) : Prop where
  k : z.K = X.K
  io : z.io.isSome = b
  h0 : Ex X.H_0 z.H0

structure PD (X : Cx) (b : Bool) (e : Expr) (te : TE) (t : DE) : Prop where
  pe : PE X e te
  dv : ∀ z, At X b z → DV z te t
structure PDT (X : Cx) (b : Bool) (e : Expr) (te : TT) (t : DT) : Prop where
  pt : PT X e te
  dv : ∀ z, At X b z → DVT z te t
structure PDW (X : Cx) (b : Bool) (e : Expr) (te : TT) (t : DT) : Prop where
  pw : PW X e te
  dv : ∀ z, At X b z → DVT z te t
structure PDA (X : Cx) (b : Bool) (es : List Expr) (te : TA) (t : DA) : Prop where
  pa : PA X es te
  dv : ∀ z, At X b z → DVA z te t

section
variable {X : Cx} {b : Bool} {e e1 e2 : Expr} {es : List Expr} {te ta tb : TE} {t da db : DE} {pos : Pos}

/-! ### names, constants -/
def dVar (i : Nat) : DE := fun ρ Q => match ρ[i]? with
  | some (.fr d) => Q (.fr d) ρ
  | some (.ow _) => Q (.sl i) ρ
  | _ => False
theorem pd_name (i : Nat) {x : Str} (hN : X.N[i]? = some x := by rfl) (hv : Vis X.env.scope x := by first | exact Or.inl rfl | exact Or.inr (Or.inl rfl) | exact Or.inr (Or.inr rfl)) (hd : (x == ("__debug__" : Str)) = false := by decide)
    (hcd : (x == ("__classdict__" : Str)) = false := by decide) : PD X b (.Name x pos) (tVar i) (dVar i) := by
  refine ⟨pe_var hN hv hd hcd, fun z hz F H ρ σ Q R S q k => ?_⟩
  have q : (match ρ[i]? with
  | some (.fr d) => Q (.fr d) ρ
  | some (.ow _) => Q (.sl i) ρ
  | _ => False) := q
  cases h : ρ[i]? with
  | none => rw [h] at q; exact q.elim
  | some s =>
    rw [h] at q
    obtain ⟨v, hv, w⟩ := S.sl i s h
    cases s with
    | un => exact q.elim
    | fr d =>
      obtain ⟨x, e1, r⟩ := w
      subst e1
      exact ⟨x, hv, k x H F ρ (.fr d) (Ex.refl F) S r q⟩
    | ow o =>
      obtain ⟨a, e1, r⟩ := w
      subst e1
      exact ⟨.ref a, hv, k (.ref a) H F ρ (.sl i) (Ex.refl F) S ⟨hv, _, h⟩ q⟩
def dC (d : D) : DE := fun ρ Q => Q (.fr d) ρ
theorem dv_c {z : Cz} {v : V} {d : D} (h : ∀ F, Rep z.K F d v) : DV z (tC v) (dC d) := fun F H ρ σ Q R S q k => k v H F ρ (.fr d) (Ex.refl F) S (h F) q
theorem pd_int {i : Int} {j} : PD X b (.Constant (.int i) j pos) (tC (.int i)) (dC (.int i)) := ⟨pe_int, fun _ _ => dv_c fun _ => rep_int.mpr rfl⟩
theorem pd_bl {c : Bool} {j} : PD X b (.Constant (.bool c) j pos) (tC (.bl c)) (dC (.bl c)) := ⟨pe_bl, fun _ _ => dv_c fun _ => rep_bl.mpr rfl⟩
theorem pd_non {j} : PD X b (.Constant .none j pos) (tC .non) (dC .non) := ⟨pe_non, fun _ _ => dv_c fun _ => rep_non.mpr rfl⟩
theorem pd_str {x : Str} {j} : PD X b (.Constant (.str x) j pos) (tC (.str x)) (dC (.str x)) := ⟨pe_str, fun _ _ => dv_c fun _ => rep_str.mpr rfl⟩
/-- a module's constant: its datum in any heap -/
def KRep (X : Cx) (x : Str) (v : V) (d : D) : Prop := (∃ u, X.mg x = some u ∧ RelV v u) ∧ ∀ F, Rep X.K F d v
theorem pd_glob {x : Str} {v : V} {d : D} (h : KRep X x v d) (hg : Gl X x := by rfl) (hd : (x == ("__debug__" : Str)) = false := by decide) : PD X b (.Name x pos) (tC v) (dC d) := by
  obtain ⟨⟨u, hm, r⟩, h2⟩ := h
  exact ⟨pe_glob hg hm r hd, fun z hz => dv_c fun F => by rw [hz.1]; exact h2 F⟩

/-! ### operations on values -/
inductive NewV (K : PySem.W.Frag) (F H : Hp) : V → Hp → Hp → Res → Prop
  | same {d : D} {v : V} (h : Rep K F d v) : NewV K F H v F H (.fr d)
  | tup {p : Addr} {vs : List V} {ds : List D} (h : H p = none) (r : RepL K F ds vs) : NewV K F H (.ref p) (upd F p (.tup vs)) (upd H p (.tup vs)) (.fr (.tup ds))
  | lst {p : Addr} {vs : List V} {ds : List D} (h : H p = none) (r : RepL K F ds vs) : NewV K F H (.ref p) F (upd H p (.lst vs)) (.ow (.lst ds))
theorem newV_ok {z : Cz} {F H F' H' : Hp} {ρ : Ro} {σ : L2.St} {v : V} {r : Res} (S : Sta z F H ρ σ) (n : NewV z.K F H v F' H' r) : Ex F F' ∧ Sta z F' H' ρ σ ∧ ResOK z F' H' ρ σ v r := by
  cases n with
  | same h => exact ⟨Ex.refl F, S, h⟩
  | @tup p vs ds h q =>
    have e : Ex F (upd F p (.tup vs)) := Ex.new (S.fz h)
    exact ⟨e, S.newF h _, rep_tup.mpr ⟨_, _, rfl, st_of upd_same, q.mono e⟩⟩
  | lst h q => exact ⟨Ex.refl F, S.newH h _, _, rfl, ⟨_, upd_same, q⟩, S.fz h, S.h0 h, S.far h⟩
/-- a two-place operation: g says what comes out -/
abbrev G2 := D → D → (Res → Prop) → Prop
def VO2 (K : PySem.W.Frag) (r : R2) (g : G2) : Prop := ∀ (F H : Hp) (x y : V) (d e : D) (q : Res → Prop) (Q : VK), Ex F H → RepH K F H d x → RepH K F H e y → g d e q → (∀ v F' H' res, NewV K F H v F' H' res → q res → Q v H') → r x y H Q
def dOp (g : G2) (da db : DE) : DE := fun ρ Q => da ρ fun ra ρ1 => db ρ1 fun rb ρ2 => ob (vw ρ2 ra) fun d => ob (vw ρ2 rb) fun e => g d e fun r => Q r ρ2
theorem dv_op {z : Cz} {r : R2} {g : G2} (hg : VO2 z.K r g) (ha : DV z ta da) (hb : DV z tb db) : DV z (tOp r ta tb) (dOp g da db) := by
  intro F H ρ σ Q R S q k
  refine ha F H ρ σ _ _ S q fun x H1 F1 ρ1 ra e1 S1 o1 q1 => ?_
  obtain ⟨F2, e2, S2, h2⟩ := S1.hold o1
  refine hb F2 H1 ρ1 σ _ _ S2 q1 fun y H3 F3 ρ3 rb e3 S3 o3 q3 => ?_
  obtain ⟨F4, e4, S4, h4⟩ := S3.hold o3
  obtain ⟨d, v1, q3⟩ := ob_iff.mp q3
  obtain ⟨e, v2, q4⟩ := ob_iff.mp q3
  refine hg F4 H3 x y d e _ _ S4.fh (S4.see (h2.mono (e3.trans e4)) v1) (S4.see h4 v2) q4 fun v F' H' res n q5 => ?_
  obtain ⟨f1, f2, f3⟩ := newV_ok S4 n
  exact k v H' F' ρ3 res ((((e1.trans e2).trans e3).trans e4).trans f1) f2 f3 q5
theorem pd_op {op : Operator} {r : R2} {g : G2} (ho : OpR X (binaryOp op) r) (hg : VO2 X.K r g) (ha : PD X b e1 ta da) (hb : PD X b e2 tb db) : PD X b (.BinOp e1 op e2 pos) (tOp r ta tb) (dOp g da db) :=
  ⟨pe_op ho ha.pe hb.pe, fun z hz => dv_op (by rw [hz.1]; exact hg) (ha.dv z hz) (hb.dv z hz)⟩
theorem pd_cmp {op : CmpOp} {r : R2} {g : G2} (ho : OpR X (compareOp op) r) (hg : VO2 X.K r g) (ha : PD X b e1 ta da) (hb : PD X b e2 tb db) (hm : behindInMarks op e2 = false) : PD X b (.Compare e1 [op] [e2] pos) (tOp r ta tb) (dOp g da db) :=
  ⟨pe_cmpR ho ha.pe hb.pe hm, fun z hz => dv_op (by rw [hz.1]; exact hg) (ha.dv z hz) (hb.dv z hz)⟩
theorem pd_ix {r : R2} {g : G2} (ho : IxR X r) (hg : VO2 X.K r g) (ha : PD X b e1 ta da) (hb : PD X b e2 tb db) (hs : PlainIx e2) : PD X b (.Subscript e1 e2 pos) (tOp r ta tb) (dOp g da db) :=
  ⟨pe_ix ho ha.pe hb.pe hs, fun z hz => dv_op (by rw [hz.1]; exact hg) (ha.dv z hz) (hb.dv z hz)⟩
/-- a test by a comparison -/
def dB (t : DE) : DT := fun ρ Q => t ρ fun r ρ' => ob (asB r) fun c => Q c ρ'
theorem dv_b {z : Cz} (h : DV z te t) : DVT z (tB te) (dB t) := by
  intro F H ρ σ Q R S q k
  refine h F H ρ σ _ _ S q fun x H1 F1 ρ1 r e1 S1 o1 q1 => ?_
  obtain ⟨c, hc, q1⟩ := ob_iff.mp q1
  cases asB_ok hc
  exact ⟨c, res_bl o1, k c H1 F1 ρ1 e1 S1 q1⟩
theorem pdt_cmp {op : CmpOp} {r : R2} {g : G2} (ho : OpR X (compareOp op) r) (hg : VO2 X.K r g) (ha : PD X b e1 ta da) (hb : PD X b e2 tb db) (hm : behindInMarks op e2 = false) : PDT X b (.Compare e1 [op] [e2] pos) (tTest (tOp r ta tb)) (dB (dOp g da db)) :=
  ⟨pt_cmpR ho ha.pe hb.pe hm, fun z hz => dv_b (dv_op (by rw [hz.1]; exact hg) (ha.dv z hz) (hb.dv z hz))⟩
theorem pdt_val (h : PD X b e te t) (he : ∀ whole, isTrue e X.env whole = (do let v ← whole; standAt e.pos; holding [v] (truthy v)) := by intro _; rfl) : PDT X b e (tB te) (dB t) := ⟨pt_val h.pe he, fun z hz => dv_b (h.dv z hz)⟩
/-- one place -/
abbrev G1 := D → (Res → Prop) → Prop
def VO1 (K : PySem.W.Frag) (r : V → Hp → VK → Prop) (g : G1) : Prop := ∀ (F H : Hp) (x : V) (d : D) (q : Res → Prop) (Q : VK), Ex F H → RepH K F H d x → g d q → (∀ v F' H' res, NewV K F H v F' H' res → q res → Q v H') → r x H Q
def dUn (g : G1) (da : DE) : DE := fun ρ Q => da ρ fun ra ρ1 => ob (vw ρ1 ra) fun d => g d fun r => Q r ρ1
theorem dv_un {z : Cz} {r : V → Hp → VK → Prop} {g : G1} (hg : VO1 z.K r g) (ha : DV z ta da) : DV z (tUn r ta) (dUn g da) := by
  intro F H ρ σ Q R S q k
  refine ha F H ρ σ _ _ S q fun x H1 F1 ρ1 ra e1 S1 o1 q1 => ?_
  obtain ⟨F2, e2, S2, h2⟩ := S1.hold o1
  obtain ⟨d, v1, q4⟩ := ob_iff.mp q1
  refine hg F2 H1 x d _ _ S2.fh (S2.see h2 v1) q4 fun v F' H' res n q5 => ?_
  obtain ⟨f1, f2, f3⟩ := newV_ok S2 n
  exact k v H' F' ρ1 res ((e1.trans e2).trans f1) f2 f3 q5
theorem pd_un {op : UnaryOp} {r : V → Hp → VK → Prop} {g : G1} (ho : UnR X (unaryOp op) r) (hg : VO1 X.K r g) (ha : PD X b e ta da) : PD X b (.UnaryOp op e pos) (tUn r ta) (dUn g da) :=
  ⟨pe_un ho ha.pe, fun z hz => dv_un (by rw [hz.1]; exact hg) (ha.dv z hz)⟩

/-! ### and, or, not, if else -/
variable {tt tu : TT} {dt du : DT} {rest : List Expr}
def dAnd (t u : DT) : DT := fun ρ Q => t ρ fun c ρ1 => if c = true then u ρ1 Q else Q false ρ1
def dOr (t u : DT) : DT := fun ρ Q => t ρ fun c ρ1 => if c = true then Q true ρ1 else u ρ1 Q
def dNot (t : DT) : DT := fun ρ Q => t ρ fun c ρ1 => Q (!c) ρ1
theorem dv_and {z : Cz} (h1 : DVT z tt dt) (h2 : DVT z tu du) : DVT z (tAnd tt tu) (dAnd dt du) := by
  intro F H ρ σ Q R S q k
  refine h1 F H ρ σ _ _ S q fun c H1 F1 ρ1 e1 S1 q1 => ?_
  cases c with
  | true => exact h2 F1 H1 ρ1 σ _ _ S1 q1 fun c H2 F2 ρ2 e2 S2 q2 => k c H2 F2 ρ2 (e1.trans e2) S2 q2
  | false => exact k false H1 F1 ρ1 e1 S1 q1
theorem dv_or {z : Cz} (h1 : DVT z tt dt) (h2 : DVT z tu du) : DVT z (tOr tt tu) (dOr dt du) := by
  intro F H ρ σ Q R S q k
  refine h1 F H ρ σ _ _ S q fun c H1 F1 ρ1 e1 S1 q1 => ?_
  cases c with
  | true => exact k true H1 F1 ρ1 e1 S1 q1
  | false => exact h2 F1 H1 ρ1 σ _ _ S1 q1 fun c H2 F2 ρ2 e2 S2 q2 => k c H2 F2 ρ2 (e1.trans e2) S2 q2
theorem pdw_and1 (h : PDT X b e tt dt) : PDW X b (.BoolOp .And [e] pos) tt dt := ⟨pw_and1 h.pt, h.dv⟩
theorem pdw_or1 (h : PDT X b e tt dt) : PDW X b (.BoolOp .Or [e] pos) tt dt := ⟨pw_or1 h.pt, h.dv⟩
theorem pdw_and (h : PDT X b e1 tt dt) (h2 : PDW X b (.BoolOp .And (e2 :: rest) pos) tu du) : PDW X b (.BoolOp .And (e1 :: e2 :: rest) pos) (tAnd tt tu) (dAnd dt du) := ⟨pw_and h.pt h2.pw, fun z hz => dv_and (h.dv z hz) (h2.dv z hz)⟩
theorem pdw_or (h : PDT X b e1 tt dt) (h2 : PDW X b (.BoolOp .Or (e2 :: rest) pos) tu du) : PDW X b (.BoolOp .Or (e1 :: e2 :: rest) pos) (tOr tt tu) (dOr dt du) := ⟨pw_or h.pt h2.pw, fun z hz => dv_or (h.dv z hz) (h2.dv z hz)⟩
theorem PDW.pdt (h : PDW X b e tt dt) : PDT X b e tt dt := ⟨h.pw.pt, h.dv⟩
theorem pdt_not (h : PDT X b e tt dt) : PDT X b (.UnaryOp .Not e pos) (tNot tt) (dNot dt) := ⟨pt_not h.pt, fun z hz F H ρ σ Q R S q k => h.dv z hz F H ρ σ _ _ S q fun c H1 F1 ρ1 e1 S1 q1 => k _ H1 F1 ρ1 e1 S1 q1⟩
/-- .. as values -/
def dAndV (t u : DE) : DE := fun ρ Q => t ρ fun r ρ1 => ob (asB r) fun c => if c = true then u ρ1 Q else Q (.fr (.bl false)) ρ1
def dOrV (t u : DE) : DE := fun ρ Q => t ρ fun r ρ1 => ob (asB r) fun c => if c = true then Q (.fr (.bl true)) ρ1 else u ρ1 Q
def dNotV (t : DE) : DE := fun ρ Q => t ρ fun r ρ1 => ob (asB r) fun c => Q (.fr (.bl (!c))) ρ1
theorem pd_one {op} (h : PD X b e te t) : PD X b (.BoolOp op [e] pos) te t := ⟨pe_one h.pe, h.dv⟩
theorem pd_and (ha : PD X b e1 ta da) (hb : PD X b (.BoolOp .And (e2 :: rest) pos) tb db) : PD X b (.BoolOp .And (e1 :: e2 :: rest) pos) (tAndV ta tb) (dAndV da db) := by
  refine ⟨pe_and ha.pe hb.pe, fun z hz F H ρ σ Q R S q k => ?_⟩
  refine ha.dv z hz F H ρ σ _ _ S q fun v H1 F1 ρ1 r e1 S1 o1 q1 => ?_
  obtain ⟨c, hc, q1⟩ := ob_iff.mp q1
  cases asB_ok hc
  refine ⟨c, res_bl o1, ?_⟩
  cases c with
  | true => exact hb.dv z hz F1 H1 ρ1 σ _ _ S1 q1 fun v H2 F2 ρ2 r e2 S2 o2 q2 => k v H2 F2 ρ2 r (e1.trans e2) S2 o2 q2
  | false => exact k (.bl false) H1 F1 ρ1 (.fr (.bl false)) e1 S1 ((rep_bl (K := z.K) (F := F1)).mpr rfl) q1
theorem pd_or (ha : PD X b e1 ta da) (hb : PD X b (.BoolOp .Or (e2 :: rest) pos) tb db) : PD X b (.BoolOp .Or (e1 :: e2 :: rest) pos) (tOrV ta tb) (dOrV da db) := by
  refine ⟨pe_or ha.pe hb.pe, fun z hz F H ρ σ Q R S q k => ?_⟩
  refine ha.dv z hz F H ρ σ _ _ S q fun v H1 F1 ρ1 r e1 S1 o1 q1 => ?_
  obtain ⟨c, hc, q1⟩ := ob_iff.mp q1
  cases asB_ok hc
  refine ⟨c, res_bl o1, ?_⟩
  cases c with
  | false => exact hb.dv z hz F1 H1 ρ1 σ _ _ S1 q1 fun v H2 F2 ρ2 r e2 S2 o2 q2 => k v H2 F2 ρ2 r (e1.trans e2) S2 o2 q2
  | true => exact k (.bl true) H1 F1 ρ1 (.fr (.bl true)) e1 S1 ((rep_bl (K := z.K) (F := F1)).mpr rfl) q1
theorem pd_not (ha : PD X b e ta da) : PD X b (.UnaryOp .Not e pos) (tNotV ta) (dNotV da) := by
  refine ⟨pe_not ha.pe, fun z hz F H ρ σ Q R S q k => ?_⟩
  refine ha.dv z hz F H ρ σ _ _ S q fun v H1 F1 ρ1 r e1 S1 o1 q1 => ?_
  obtain ⟨c, hc, q1⟩ := ob_iff.mp q1
  cases asB_ok hc
  exact ⟨c, res_bl o1, k (.bl (!c)) H1 F1 ρ1 (.fr (.bl (!c))) e1 S1 ((rep_bl (K := z.K) (F := F1)).mpr rfl) q1⟩
def dIf (t : DT) (ta tb : DE) : DE := fun ρ Q => t ρ fun c ρ1 => if c = true then ta ρ1 Q else tb ρ1 Q
theorem pd_ifExp {c : Expr} (hc : PDT X b c tt dt) (ha : PD X b e1 ta da) (hb : PD X b e2 tb db) : PD X b (.IfExp c e1 e2 pos) (tIf tt ta tb) (dIf dt da db) := by
  refine ⟨pe_ifExp hc.pt ha.pe hb.pe, fun z hz F H ρ σ Q R S q k => ?_⟩
  refine hc.dv z hz F H ρ σ _ _ S q fun c H1 F1 ρ1 e1 S1 q1 => ?_
  cases c with
  | true => exact ha.dv z hz F1 H1 ρ1 σ _ _ S1 q1 fun v H2 F2 ρ2 r e2 S2 o2 q2 => k v H2 F2 ρ2 r (e1.trans e2) S2 o2 q2
  | false => exact hb.dv z hz F1 H1 ρ1 σ _ _ S1 q1 fun v H2 F2 ρ2 r e2 S2 o2 q2 => k v H2 F2 ρ2 r (e1.trans e2) S2 o2 q2

/-! ### arguments, displays -/
variable {ta' : TA} {dr : DA}
def dNil : DA := fun ρ Q => Q [] ρ
def dCons (b : Bool) (t : DE) (u : DA) : DA := fun ρ Q => t ρ fun r ρ1 => fx b ρ1 r fun d ρ2 => u ρ2 fun ds ρ3 => Q (d :: ds) ρ3
theorem pda_nil : PDA X b [] tNil dNil := ⟨pa_nil, fun z hz F H ρ σ Q R S q k => k [] H F ρ [] (Ex.refl F) S (repL_nil.mpr rfl) q⟩
theorem pda_cons (h : PD X b e te t) (hr : PDA X b es ta' dr) (hs : starEach (e :: es) X.env = (false, eval e X.env) :: starEach es X.env := by rfl) : PDA X b (e :: es) (tCons te ta') (dCons b t dr) := by
  refine ⟨pa_cons h.pe hr.pa hs, fun z hz F H ρ σ Q R S q k => ?_⟩
  refine h.dv z hz F H ρ σ _ _ S q fun v H1 F1 ρ1 r e1 S1 o1 q1 => ?_
  obtain ⟨F2, ρ2, d, e2, S2, o2, q2⟩ := S1.fix hz.2 o1 q1
  exact hr.dv z hz F2 H1 ρ2 σ _ _ S2 q2 fun vs H3 F3 ρ3 ds e3 S3 o3 q3 => k _ H3 F3 ρ3 _ ((e1.trans e2).trans e3) S3 (RepL.cons (Rep.mono e3 o2) o3) q3
def dTup (u : DA) : DE := fun ρ Q => u ρ fun ds ρ1 => obB (Nat.ble ds.length 100000) (Q (.fr (.tup ds)) ρ1)
def dLst (u : DA) : DE := fun ρ Q => u ρ fun ds ρ1 => obB (Nat.ble ds.length 100000) (Q (.ow (.lst ds)) ρ1)
theorem pd_tup {x1} (h : PDA X b es ta' dr) : PD X b (.Tuple es x1 pos) (tTup ta') (dTup dr) := by
  refine ⟨pe_tup h.pa, fun z hz F H ρ σ Q R S q k => ?_⟩
  refine h.dv z hz F H ρ σ _ _ S q fun vs H1 F1 ρ1 ds e1 S1 o1 q1 => ⟨sz_of (by rw [← o1.length]; exact Nat.le_of_ble_eq_true (obB_iff.mp q1).1), fun p hp => ?_⟩
  obtain ⟨f1, f2, f3⟩ := newV_ok S1 (.tup hp o1)
  exact k _ _ _ ρ1 _ (e1.trans f1) f2 f3 (obB_iff.mp q1).2
theorem pd_lst (h : PDA X b es ta' dr) : PD X b (.List es pos) (tLst ta') (dLst dr) := by
  refine ⟨pe_lst h.pa, fun z hz F H ρ σ Q R S q k => ?_⟩
  refine h.dv z hz F H ρ σ _ _ S q fun vs H1 F1 ρ1 ds e1 S1 o1 q1 => ⟨sz_of (by rw [← o1.length]; exact Nat.le_of_ble_eq_true (obB_iff.mp q1).1), fun p hp => ?_⟩
  obtain ⟨f1, f2, f3⟩ := newV_ok S1 (.lst hp o1)
  exact k _ _ _ ρ1 _ (e1.trans f1) f2 f3 (obB_iff.mp q1).2

/-! ### an attribute, a slice -/
/-- a field of a class: its place among the attributes -/
structure Fs (K : PySem.W.Frag) (C : Addr) (ns : List Str) (f : Str) (i : Nat) : Prop where
  cl : Cls K C
  na : NoAttr K C f
  ix : ∀ ds : List D, ds.length = ns.length → (ns.zip ds).lookup f = ds[i]?
def objAt : D → Option (Addr × List Str × List D)
  | .obj C ns ds => some (C, ns, ds)
  | _ => none
def dFld (C : Addr) (ns : List Str) (i : Nat) (t : DE) : DE := fun ρ Q => t ρ fun r ρ1 => ob (vw ρ1 r) fun d => ob (objAt d) fun q => (q.1 = C ∧ q.2.1 = ns) ∧ ob q.2.2[i]? fun d => Q (.fr d) ρ1
theorem lookup_zip {K : PySem.W.Frag} {F : Hp} {f : Str} {d : D} : ∀ {ns : List Str} {ds : List D} {us : List V}, RepL K F ds us → (ns.zip ds).lookup f = some d → ∃ v, (ns.zip us).lookup f = some v ∧ Rep K F d v
  | [], _, _, _, h => by simp at h
  | n :: ns, [], _, _, h => by simp at h
  | n :: ns, d' :: ds, us, r, h => by
    rw [repL_cons] at r
    obtain ⟨v, us', rfl, h1, h2⟩ := r
    rw [List.zip_cons_cons, List.lookup_cons] at h
    rw [List.zip_cons_cons, List.lookup_cons]
    cases e : f == n with
    | true =>
      simp only [e] at h ⊢
      cases h
      exact ⟨v, rfl, h1⟩
    | false =>
      simp only [e] at h ⊢
      exact lookup_zip h2 h
theorem pd_fld {f : Str} {C : Addr} {ns : List Str} {i : Nat} (hf : Fs X.K C ns f i) (h : PD X b e te t) (hb : attributeBase e f X.env (eval e X.env) = eval e X.env := by rfl) : PD X b (.Attribute e f pos) (tFld X.K te f) (dFld C ns i t) := by
  refine ⟨pe_fld h.pe hb, fun z hz F H ρ σ Q R S q k => ?_⟩
  refine h.dv z hz F H ρ σ _ _ S q fun v H1 F1 ρ1 r e1 S1 o1 q1 => ?_
  obtain ⟨F2, e2, S2, h2⟩ := S1.hold o1
  obtain ⟨d, v1, q1⟩ := ob_iff.mp q1
  obtain ⟨⟨C', ns', ds⟩, v2, ⟨c1, c2⟩, q1⟩ := ob_iff.mp q1
  obtain ⟨d', l, q2⟩ := ob_iff.mp q1
  cases d with
  | obj C1 ns1 ds1 =>
    cases v2
    simp only at c1 c2 l
    subst c1 c2
    obtain ⟨a, dx, us, rfl, h3, h4, h5, h6⟩ := S2.see h2 v1
    obtain ⟨w, l2, r2⟩ := lookup_zip h6 ((hf.ix ds (h6.length.trans h5.symm)).trans l)
    exact ⟨a, _, dx, _, w, rfl, h3, hf.cl, hf.na, l2, k w H1 F2 ρ1 (.fr d') (e1.trans e2) S2 r2 q2⟩
  | _ => cases v2
/-- parts of a slice -/
abbrev DO := Ro → (Option Int → Ro → Prop) → Prop
structure PDO (X : Cx) (b : Bool) (e : Option Expr) (te : TO) (t : DO) : Prop where
  po : PO X e te
  dv : ∀ z, At X b z → ∀ F H ρ σ (Q : Option Int → Ro → Prop) (R : Option Int → Hp → Prop), Sta z F H ρ σ → t ρ Q → (∀ o H' F' ρ', Ex F F' → Sta z F' H' ρ' σ → Q o ρ' → R o H') → te σ H R
def dNoPart : DO := fun ρ Q => Q none ρ
def dPart (t : DE) : DO := fun ρ Q => t ρ fun r ρ1 => ob (asI r) fun i => Q (some i) ρ1
theorem pdo_none : PDO X b none tNoPart dNoPart := ⟨po_none, fun z hz F H ρ σ Q R S q k => k none H F ρ (Ex.refl F) S q⟩
theorem pdo_some (h : PD X b e te t) : PDO X b (some e) (tPart te) (dPart t) := ⟨po_some h.pe, fun z hz F H ρ σ Q R S q k => h.dv z hz F H ρ σ _ _ S q fun v H1 F1 ρ1 r e1 S1 o1 q1 => by
  obtain ⟨i, hi, q1⟩ := ob_iff.mp q1
  cases asI_ok hi
  exact ⟨i, res_int o1, k _ H1 F1 ρ1 e1 S1 q1⟩⟩
abbrev G3 := D → Option Int → Option Int → (Res → Prop) → Prop
def VO3 (K : PySem.W.Frag) (r : V → Option Int → Option Int → Hp → VK → Prop) (g : G3) : Prop := ∀ (F H : Hp) (x : V) (d : D) (lo hi : Option Int) (q : Res → Prop) (Q : VK), Ex F H → RepH K F H d x → g d lo hi q → (∀ v F' H' res, NewV K F H v F' H' res → q res → Q v H') → r x lo hi H Q
def dSl (g : G3) (t : DE) (l h : DO) : DE := fun ρ Q => t ρ fun r ρ1 => l ρ1 fun lo ρ2 => h ρ2 fun hi ρ3 => ob (vw ρ3 r) fun d => g d lo hi fun r => Q r ρ3
theorem pd_slice {r : V → Option Int → Option Int → Hp → VK → Prop} {g : G3} {lo hi : Option Expr} {tl th : TO} {dl dh : DO} {p2 : Pos} (hr : SlR X r) (hg : VO3 X.K r g) (h : PD X b e te t) (hl : PDO X b lo tl dl) (hh : PDO X b hi th dh) :
    PD X b (.Subscript e (.Slice lo hi none p2) pos) (tSl r te tl th) (dSl g t dl dh) := by
  refine ⟨pe_slice hr h.pe hl.po hh.po, fun z hz F H ρ σ Q R S q k => ?_⟩
  refine h.dv z hz F H ρ σ _ _ S q fun v H1 F1 ρ1 ra e1 S1 o1 q1 => ?_
  obtain ⟨F2, e2, S2, h2⟩ := S1.hold o1
  refine hl.dv z hz F2 H1 ρ1 σ _ _ S2 q1 fun i H3 F3 ρ3 e3 S3 q3 => ?_
  refine hh.dv z hz F3 H3 ρ3 σ _ _ S3 q3 fun j H4 F4 ρ4 e4 S4 q4 => ?_
  obtain ⟨d, v1, q5⟩ := ob_iff.mp q4
  have hg' : VO3 z.K r g := by rw [hz.1]; exact hg
  refine hg' F4 H4 v d i j _ _ S4.fh (S4.see (h2.mono (e3.trans e4)) v1) q5 fun v F' H' res n q6 => ?_
  obtain ⟨f1, f2, f3⟩ := newV_ok S4 n
  exact k v H' F' ρ4 res ((((e1.trans e2).trans e3).trans e4).trans f1) f2 f3 q6
/-! ### calls of built-ins by name -/
abbrev GA := List D → (Res → Prop) → Prop
def VOA (K : PySem.W.Frag) (r : List V → Hp → VK → Prop) (g : GA) : Prop := ∀ (F H : Hp) (xs : List V) (ds : List D) (q : Res → Prop) (Q : VK), Ex F H → RepL K F ds xs → g ds q → (∀ v F' H' res, NewV K F H v F' H' res → q res → Q v H') → r xs H Q
def dCB (g : GA) (u : DA) : DE := fun ρ Q => u ρ fun ds ρ1 => g ds fun r => Q r ρ1
theorem dv_cb {z : Cz} {r : List V → Hp → VK → Prop} {g : GA} (hg : VOA z.K r g) (ha : DVA z ta' dr) : DV z (tCB r ta') (dCB g dr) := by
  intro F H ρ σ Q R S q k
  refine ha F H ρ σ _ _ S q fun vs H1 F1 ρ1 ds e1 S1 o1 q1 => ?_
  refine hg F1 H1 vs ds _ _ S1.fh o1 q1 fun v F' H' res n q5 => ?_
  obtain ⟨f1, f2, f3⟩ := newV_ok S1 n
  exact k v H' F' ρ1 res (e1.trans f1) f2 f3 q5
/-- one argument, looked at and not frozen -/
def dCB1 (g : G1) (t : DE) : DE := fun ρ Q => t ρ fun r ρ1 => ob (vw ρ1 r) fun d => g d fun r => Q r ρ1
def VOA1 (K : PySem.W.Frag) (r : List V → Hp → VK → Prop) (g : G1) : Prop := ∀ (F H : Hp) (x : V) (d : D) (q : Res → Prop) (Q : VK), Ex F H → RepH K F H d x → g d q → (∀ v F' H' res, NewV K F H v F' H' res → q res → Q v H') → r [x] H Q
theorem dv_cb1 {z : Cz} {r : List V → Hp → VK → Prop} {g : G1} (hg : VOA1 z.K r g) (ha : DV z te t) : DV z (tCB r (tCons te tNil)) (dCB1 g t) := by
  intro F H ρ σ Q R S q k
  refine ha F H ρ σ _ _ S q fun v H1 F1 ρ1 ra e1 S1 o1 q1 => ?_
  obtain ⟨F2, e2, S2, h2⟩ := S1.hold o1
  obtain ⟨d, v1, q4⟩ := ob_iff.mp q1
  refine hg F2 H1 v d _ _ S2.fh (S2.see h2 v1) q4 fun v F' H' res n q5 => ?_
  obtain ⟨f1, f2, f3⟩ := newV_ok S2 n
  exact k v H' F' ρ1 res ((e1.trans e2).trans f1) f2 f3 q5
variable {x : Str} {p : Pos} {id T : String} {r : List V → Hp → VK → Prop}
theorem pd_callB {g : GA} (hc : CallR X (.builtin id) r) (hg : VOA X.K r g) (hm : X.mg x = none) (ha : PDA X b (e :: es) ta' dr) (hgl : Gl X x := by rfl) (hv : bootBuiltins x = some (.builtin id) := by decide +kernel) (hn : x ≠ "__name__" := by decide) (hdb : (x == ("__debug__" : Str)) = false := by decide)
    (he : starEach (e :: es) X.env = (false, eval e X.env) :: starEach es X.env := by rfl) (hpl : (backTo pos (starEach es X.env)).any (·.1) = false := by rfl) : PD X b (.Call (.Name x p) (e :: es) [] pos) (tCB r ta') (dCB g dr) :=
  ⟨pe_callB hc hgl hm hv ha.pa hn hdb he hpl, fun z hz => dv_cb (by rw [hz.1]; exact hg) (ha.dv z hz)⟩
theorem pd_callTy {g : GA} (hc : CallR X (.type T) r) (hg : VOA X.K r g) (hm : X.mg x = none) (ha : PDA X b (e :: es) ta' dr) (hgl : Gl X x := by rfl) (hv : bootBuiltins x = some (.type T) := by decide +kernel) (hn : x ≠ "__name__" := by decide) (hdb : (x == ("__debug__" : Str)) = false := by decide)
    (he : starEach (e :: es) X.env = (false, eval e X.env) :: starEach es X.env := by rfl) (hpl : (backTo pos (starEach es X.env)).any (·.1) = false := by rfl) : PD X b (.Call (.Name x p) (e :: es) [] pos) (tCB r ta') (dCB g dr) :=
  ⟨pe_callTy hc hgl hm hv ha.pa hn hdb he hpl, fun z hz => dv_cb (by rw [hz.1]; exact hg) (ha.dv z hz)⟩
theorem pd_callB1 {g : G1} (hc : CallR X (.builtin id) r) (hg : VOA1 X.K r g) (hm : X.mg x = none) (ha : PD X b e te t) (hgl : Gl X x := by rfl) (hv : bootBuiltins x = some (.builtin id) := by decide +kernel) (hn : x ≠ "__name__" := by decide) (hdb : (x == ("__debug__" : Str)) = false := by decide)
    (he : starEach [e] X.env = (false, eval e X.env) :: starEach [] X.env := by rfl) (hpl : (backTo pos (starEach [] X.env)).any (·.1) = false := by rfl) : PD X b (.Call (.Name x p) [e] [] pos) (tCB r (tCons te tNil)) (dCB1 g t) :=
  ⟨pe_callB hc hgl hm hv (pa_cons ha.pe pa_nil he) hn hdb he hpl, fun z hz => dv_cb1 (by rw [hz.1]; exact hg) (ha.dv z hz)⟩
theorem pd_callTy1 {g : G1} (hc : CallR X (.type T) r) (hg : VOA1 X.K r g) (hm : X.mg x = none) (ha : PD X b e te t) (hgl : Gl X x := by rfl) (hv : bootBuiltins x = some (.type T) := by decide +kernel) (hn : x ≠ "__name__" := by decide) (hdb : (x == ("__debug__" : Str)) = false := by decide)
    (he : starEach [e] X.env = (false, eval e X.env) :: starEach [] X.env := by rfl) (hpl : (backTo pos (starEach [] X.env)).any (·.1) = false := by rfl) : PD X b (.Call (.Name x p) [e] [] pos) (tCB r (tCons te tNil)) (dCB1 g t) :=
  ⟨pe_callTy hc hgl hm hv (pa_cons ha.pe pa_nil he) hn hdb he hpl, fun z hz => dv_cb1 (by rw [hz.1]; exact hg) (ha.dv z hz)⟩
/-- a module's name for a built-in (gcd, lcm) -/
theorem pd_callF {g : GA} (hc : CallR X (.builtin id) r) (hg : VOA X.K r g) (hm : X.mg x = some (.builtin id)) (ha : PDA X b (e :: es) ta' dr) (hgl : Gl X x := by rfl) (hdb : (x == ("__debug__" : Str)) = false := by decide)
    (he : starEach (e :: es) X.env = (false, eval e X.env) :: starEach es X.env := by rfl) (hpl : (backTo pos (starEach es X.env)).any (·.1) = false := by rfl) : PD X b (.Call (.Name x p) (e :: es) [] pos) (tCB r ta') (dCB g dr) :=
  ⟨pe_callBfun hc hgl hm ha.pa hdb he hpl, fun z hz => dv_cb (by rw [hz.1]; exact hg) (ha.dv z hz)⟩
end
end DL
end
section
set_option Elab.async false
set_option linter.all false
set_option maxRecDepth 100000
set_option maxHeartbeats 4000000
/-! DL4: operations on values, by data. -/
namespace DL
open PySem PySem.Spec PyProof.Rows L2 Evl
section
variable {K : PySem.W.Frag} {F H : Hp} {x y : V} {d e : D} {X : Cx}
theorem hInt {i : Int} (h : RepH K F H (.int i) x) : x = .int i := rep_int.mp (show Rep K F (.int i) x from h)
theorem hBl {i : Bool} (h : RepH K F H (.bl i) x) : x = .bl i := rep_bl.mp (show Rep K F (.bl i) x from h)
theorem hStr {i : Str} (h : RepH K F H (.str i) x) : x = .str i := rep_str.mp (show Rep K F (.str i) x from h)
theorem hNon (h : RepH K F H .non x) : x = .non := rep_non.mp (show Rep K F .non x from h)
theorem hTup {ds : List D} (h : RepH K F H (.tup ds) x) : ∃ a vs, x = .ref a ∧ SqT K F a vs ∧ RepL K F ds vs := rep_tup.mp (show Rep K F (.tup ds) x from h)
theorem hLst {ds : List D} (h : RepH K F H (.lst ds) x) : ∃ a vs, x = .ref a ∧ H a = some (.lst vs) ∧ RepL K F ds vs := h
theorem hRl {ds : List D} (h : RepH K F H (.rl ds) x) : ∃ a vs, x = .ref a ∧ SqL K H a vs ∧ RepL K F ds vs := h
theorem nInt {i : Int} : NewV K F H (.int i) F H (.fr (.int i)) := .same (rep_int.mpr rfl)
theorem nBl {i : Bool} : NewV K F H (.bl i) F H (.fr (.bl i)) := .same (rep_bl.mpr rfl)
theorem nStr {i : Str} : NewV K F H (.str i) F H (.fr (.str i)) := .same (rep_str.mpr rfl)
theorem nNon : NewV K F H .non F H (.fr .non) := .same (rep_non.mpr rfl)

/-! ### + - * // % << ** -/
def gAdd : G2 := fun d e q => match d, e with
  | .int i, .int j => q (.fr (.int (i + j)))
  | .str i, .str j => i.length + j.length ≤ 100000 ∧ q (.fr (.str (i ++ j)))
  | .lst a, .lst b => a.length + b.length ≤ 100000 ∧ q (.ow (.lst (a ++ b)))
  | .tup a, .tup b => a.length + b.length ≤ 100000 ∧ q (.fr (.tup (a ++ b)))
  | _, _ => False
abbrev rAddI : R2 := rI0 fun i j => .int (i + j)
abbrev rAddSt : R2 := fun x y H Q => ∃ i j, x = .str i ∧ y = .str j ∧ i.length + j.length ≤ sizeLine ∧ Q (.str (i ++ j)) H
abbrev rAddA (K : PySem.W.Frag) : R2 := fun x y H Q => rAddI x y H Q ∨ (fun x y H Q => rAddSt x y H Q ∨ (fun x y H Q => rCat x y H Q ∨ rCatA K x y H Q) x y H Q) x y H Q
theorem op_addA : OpR X (binaryOp .Add) (rAddA X.K) := op_add.or (op_add_str.or (op_cat.or op_catA))
theorem vo_add : VO2 K (rAddA K) gAdd := by
  intro F H x y d e q Q ex h1 h2 g k
  cases d with
  | int i => cases e with
    | int j => exact .inl ⟨i, j, hInt h1, hInt h2, k _ _ _ _ nInt g⟩
    | _ => exact g.elim
  | str i => cases e with
    | str j => exact .inr (.inl ⟨i, j, hStr h1, hStr h2, sz_of g.1, k _ _ _ _ nStr g.2⟩)
    | _ => exact g.elim
  | lst a => cases e with
    | lst b =>
      obtain ⟨p, vs, rfl, h3, h4⟩ := hLst h1
      obtain ⟨p', vs', rfl, h5, h6⟩ := hLst h2
      exact .inr (.inr (.inl ⟨p, p', vs, vs', rfl, rfl, h3, h5, sz_of (by rw [← h4.length, ← h6.length]; exact g.1), fun l hl => k _ _ _ _ (.lst hl (h4.append h6)) g.2⟩))
    | _ => exact g.elim
  | tup a => cases e with
    | tup b =>
      obtain ⟨p, vs, rfl, h3, h4⟩ := hTup h1
      obtain ⟨p', vs', rfl, h5, h6⟩ := hTup h2
      refine .inr (.inr (.inr ⟨p, p', vs, vs', rfl, rfl, ex_t ex h3, ex_t ex h5, sz_of (by rw [← h4.length, ← h6.length]; exact g.1), fun z => ?_, fun z z' => ?_, fun z z' l hl => ?_⟩))
      · have e : a = [] := List.length_eq_zero_iff.mp (by rw [h4.length, z]; rfl)
        subst e
        exact k _ _ _ _ (.same (rep_tup.mpr ⟨p', vs', rfl, h5, h6⟩)) g.2
      · have e : b = [] := List.length_eq_zero_iff.mp (by rw [h6.length, z']; rfl)
        subst e
        have g2 := g.2
        rw [List.append_nil] at g2
        exact k _ _ _ _ (.same (rep_tup.mpr ⟨p, vs, rfl, h3, h4⟩)) g2
      · exact k _ _ _ _ (NewV.tup hl (h4.append h6)) g.2
    | _ => exact g.elim
  | _ => exact g.elim
def gSub : G2 := fun d e q => match d, e with
  | .int i, .int j => q (.fr (.int (i - j)))
  | _, _ => False
theorem vo_sub : VO2 K (rI0 fun i j => .int (i - j)) gSub := by
  intro F H x y d e q Q ex h1 h2 g k
  cases d with
  | int i => cases e with
    | int j => exact ⟨i, j, hInt h1, hInt h2, k _ _ _ _ nInt g⟩
    | _ => exact g.elim
  | _ => exact g.elim
def gMul : G2 := fun d e q => match d, e with
  | .int i, .int j => (CMul i j ∨ CMulW i j) ∧ q (.fr (.int (i * j)))
  | .lst a, .int j => 0 ≤ j ∧ j ≤ 100000 ∧ a.length * j.toNat ≤ 100000 ∧ q (.ow (.lst (List.replicate j.toNat a).flatten))
  | _, _ => False
abbrev rMulI : R2 := fun x y H Q => rI CMul (fun i j => .int (i * j)) x y H Q ∨ rI CMulW (fun i j => .int (i * j)) x y H Q
theorem op_mulA : OpR X (binaryOp .Mult) (fun x y H Q => rMulI x y H Q ∨ rRep x y H Q) := (op_mul.or op_mulW).or op_rep
theorem RepL.rep {ds : List D} {vs : List V} (h : RepL K F ds vs) : ∀ k : Nat, RepL K F (List.replicate k ds).flatten (List.replicate k vs).flatten
  | 0 => repL_nil.mpr rfl
  | k + 1 => by
    rw [List.replicate_succ, List.replicate_succ, List.flatten_cons, List.flatten_cons]
    exact h.append (RepL.rep h k)
theorem vo_mul : VO2 K (fun x y H Q => rMulI x y H Q ∨ rRep x y H Q) gMul := by
  intro F H x y d e q Q ex h1 h2 g k
  cases d with
  | int i => cases e with
    | int j =>
      rcases g with ⟨g1 | g1, g⟩
      · exact .inl (.inl ⟨i, j, hInt h1, hInt h2, g1, k _ _ _ _ nInt g⟩)
      · exact .inl (.inr ⟨i, j, hInt h1, hInt h2, g1, k _ _ _ _ nInt g⟩)
    | _ => exact g.elim
  | lst a => cases e with
    | int j =>
      obtain ⟨p, vs, rfl, h3, h4⟩ := hLst h1
      obtain ⟨g1, g2, g3, g4⟩ := g
      exact .inr ⟨p, j, vs, rfl, hInt h2, h3, by omega, by omega, sz_of (by rw [← h4.length]; exact g3), fun l hl => k _ _ _ _ (.lst hl (h4.rep _)) g4⟩
    | _ => exact g.elim
  | _ => exact g.elim
def gFdiv : G2 := fun d e q => match d, e with
  | .int i, .int j => CDivW i j ∧ q (.fr (.int (i / j)))
  | _, _ => False
theorem vo_fdiv : VO2 K (rI CDivW fun i j => .int (i / j)) gFdiv := by
  intro F H x y d e q Q ex h1 h2 g k
  cases d with
  | int i => cases e with
    | int j => exact ⟨i, j, hInt h1, hInt h2, g.1, k _ _ _ _ nInt g.2⟩
    | _ => exact g.elim
  | _ => exact g.elim
def gMod : G2 := fun d e q => match d, e with
  | .int i, .int j => 0 < j ∧ q (.fr (.int (i % j)))
  | _, _ => False
theorem vo_mod : VO2 K (rI (fun _ j => 0 < j) fun i j => .int (i % j)) gMod := by
  intro F H x y d e q Q ex h1 h2 g k
  cases d with
  | int i => cases e with
    | int j => exact ⟨i, j, hInt h1, hInt h2, g.1, k _ _ _ _ nInt g.2⟩
    | _ => exact g.elim
  | _ => exact g.elim
def gPow : G2 := fun d e q => match d, e with
  | .int i, .int j => CPow i j ∧ q (.fr (.int (i ^ j.toNat)))
  | _, _ => False
theorem vo_pow : VO2 K (rI CPow fun i j => .int (i ^ j.toNat)) gPow := by
  intro F H x y d e q Q ex h1 h2 g k
  cases d with
  | int i => cases e with
    | int j => exact ⟨i, j, hInt h1, hInt h2, g.1, k _ _ _ _ nInt g.2⟩
    | _ => exact g.elim
  | _ => exact g.elim
def gShl : G2 := fun d e q => match d, e with
  | .int i, .int j => CShl i j ∧ q (.fr (.int (i * 2 ^ j.toNat)))
  | _, _ => False
theorem vo_shl : VO2 K (rI CShl fun i j => .int (i * 2 ^ j.toNat)) gShl := by
  intro F H x y d e q Q ex h1 h2 g k
  cases d with
  | int i => cases e with
    | int j => exact ⟨i, j, hInt h1, hInt h2, g.1, k _ _ _ _ nInt g.2⟩
    | _ => exact g.elim
  | _ => exact g.elim
def gNeg : G1 := fun d q => match d with
  | .int i => q (.fr (.int (-i)))
  | _ => False
theorem vo_neg : VO1 K (rU fun i => .int (-i)) gNeg := by
  intro F H x d q Q ex h1 g k
  cases d with
  | int i => exact ⟨i, hInt h1, k _ _ _ _ nInt g⟩
  | _ => exact g.elim

/-! ### comparisons -/
def gCmp (p : Int → Int → Bool) : G2 := fun d e q => match d, e with
  | .int i, .int j => q (.fr (.bl (p i j)))
  | _, _ => False
theorem vo_cmp {p : Int → Int → Bool} : VO2 K (rI0 fun i j => .bl (p i j)) (gCmp p) := by
  intro F H x y d e q Q ex h1 h2 g k
  cases d with
  | int i => cases e with
    | int j => exact ⟨i, j, hInt h1, hInt h2, k _ _ _ _ nBl g⟩
    | _ => exact g.elim
  | _ => exact g.elim
abbrev gLt : G2 := gCmp fun i j => decide (i < j)
abbrev gLe : G2 := gCmp fun i j => decide (i ≤ j)
abbrev gGt : G2 := gCmp fun i j => decide (j < i)
abbrev gGe : G2 := gCmp fun i j => decide (j ≤ i)
/-! data without objects, as the library's data -/
mutual
def py : D → Option PyData
  | .non => some .none
  | .bl b => some (.bool b)
  | .int i => some (.int i)
  | .str x => some (.str x)
  | .tup ds => (pyL ds).map .tuple
  | .lst ds => (pyL ds).map .list
  | .rl ds => (pyL ds).map .list
  | .obj _ _ _ => none
  | .adr _ => none
def pyL : List D → Option (List PyData)
  | [] => some []
  | d :: ds => match py d, pyL ds with
    | some x, some xs => some (x :: xs)
    | _, _ => none
end
mutual
theorem py_rep : ∀ {d : D} {v : V} {p : PyData}, Rep K F d v → py d = some p → Dp K F v p
  | .non, v, p, h, e => by rw [py] at e; cases e; rw [rep_non.mp h]; exact .non
  | .bl b, v, p, h, e => by rw [py] at e; cases e; rw [rep_bl.mp h]; exact .bl b
  | .int i, v, p, h, e => by rw [py] at e; cases e; rw [rep_int.mp h]; exact .int i
  | .str x, v, p, h, e => by rw [py] at e; cases e; rw [rep_str.mp h]; exact .str x
  | .tup ds, v, p, h, e => by
    rw [py] at e
    obtain ⟨ps, e1, rfl⟩ := Option.map_eq_some_iff.mp e
    obtain ⟨a, vs, rfl, h1, h2⟩ := rep_tup.mp h
    exact .tup h1 (pyL_rep h2 e1)
  | .lst ds, v, p, h, e => by
    rw [py] at e
    obtain ⟨ps, e1, rfl⟩ := Option.map_eq_some_iff.mp e
    obtain ⟨a, vs, rfl, h1, h2⟩ := rep_lst.mp h
    exact .lst (sq_of h1) (pyL_rep h2 e1)
  | .rl ds, v, p, h, e => by
    rw [py] at e
    obtain ⟨ps, e1, rfl⟩ := Option.map_eq_some_iff.mp e
    obtain ⟨a, vs, rfl, h1, h2⟩ := rep_rl.mp h
    exact .lst h1 (pyL_rep h2 e1)
  | .obj C ns ds, v, p, h, e => by rw [py] at e; cases e
  | .adr a, v, p, h, e => by rw [py] at e; cases e
theorem pyL_rep : ∀ {ds : List D} {vs : List V} {ps : List PyData}, RepL K F ds vs → pyL ds = some ps → DpAll K F vs ps
  | [], vs, ps, h, e => by rw [pyL] at e; cases e; rw [repL_nil.mp h]; exact .nil
  | d :: ds, vs, ps, h, e => by
    obtain ⟨v, r, rfl, h2, h3⟩ := repL_cons.mp h
    rw [pyL] at e
    cases e1 : py d with
    | none => rw [e1] at e; cases e
    | some p =>
      cases e2 : pyL ds with
      | none => rw [e1, e2] at e; cases e
      | some qs =>
        rw [e1, e2] at e
        cases e
        exact .cons (py_rep h2 e1) (pyL_rep h3 e2)
end
mutual
theorem Dp.mono' {H' : Hp} (e : Ex H H') : ∀ {p : PyData} {v : V}, Dp K H v p → Dp K H' v p
  | .none, _, h => by cases h; exact .non
  | .bool _, _, h => by cases h; exact .bl _
  | .int _, _, h => by cases h; exact .int _
  | .str _, _, h => by cases h; exact .str _
  | .list ds, _, h => by
    cases h with
    | lst h1 h2 => exact .lst (ex_l e h1) (DpAll.mono' e h2)
  | .tuple ds, _, h => by
    cases h with
    | tup h1 h2 => exact .tup (ex_t e h1) (DpAll.mono' e h2)
  | .dict _, _, h => by cases h
theorem DpAll.mono' {H' : Hp} (e : Ex H H') : ∀ {ps : List PyData} {vs : List V}, DpAll K H vs ps → DpAll K H' vs ps
  | [], _, h => by cases h; exact .nil
  | p :: ps, _, h => by
    cases h with
    | cons h1 h2 => exact .cons (Dp.mono' e h1) (DpAll.mono' e h2)
end
theorem py_repH {p : PyData} (ex : Ex F H) (h : RepH K F H d x) (e : py d = some p) : Dp K H x p := by
  cases d with
  | lst ds =>
    obtain ⟨a, vs, rfl, h1, h2⟩ := hLst h
    rw [py] at e
    obtain ⟨ps, e1, rfl⟩ := Option.map_eq_some_iff.mp e
    exact .lst (sq_of h1) (DpAll.mono' ex (pyL_rep h2 e1))
  | rl ds =>
    obtain ⟨a, vs, rfl, h1, h2⟩ := hRl h
    rw [py] at e
    obtain ⟨ps, e1, rfl⟩ := Option.map_eq_some_iff.mp e
    exact .lst h1 (DpAll.mono' ex (pyL_rep h2 e1))
  | obj C ns ds => rw [py] at e; cases e
  | adr a => rw [py] at e; cases e
  | _ => exact Dp.mono' ex (py_rep (show Rep K F _ x from h) e)
/-- d == e: both plain; ok: short enough texts and not deep -/
def gEq : G2 := fun d e q => ob (py d) fun p => ob (py e) fun p' => obB (SeqAt.shaped p && SeqAt.shaped p') (q (.fr (.bl (PyData.eqv p p'))))
def gNe : G2 := fun d e q => ob (py d) fun p => ob (py e) fun p' => obB (SeqAt.shaped p && SeqAt.shaped p') (q (.fr (.bl (!PyData.eqv p p'))))
theorem vo_eq : VO2 K (rEqD K) gEq := fun F H x y d e q Q ex h1 h2 g k => by
  obtain ⟨p, e1, g⟩ := ob_iff.mp g
  obtain ⟨p', e2, g⟩ := ob_iff.mp g
  obtain ⟨ss, g⟩ := obB_iff.mp g
  obtain ⟨s1, s2⟩ := Bool.and_eq_true_iff.mp ss
  exact ⟨p, p', py_repH ex h1 e1, py_repH ex h2 e2, s1, s2, k _ _ _ _ nBl g⟩
theorem vo_ne : VO2 K (rNeD K) gNe := fun F H x y d e q Q ex h1 h2 g k => by
  obtain ⟨p, e1, g⟩ := ob_iff.mp g
  obtain ⟨p', e2, g⟩ := ob_iff.mp g
  obtain ⟨ss, g⟩ := obB_iff.mp g
  obtain ⟨s1, s2⟩ := Bool.and_eq_true_iff.mp ss
  exact ⟨p, p', py_repH ex h1 e1, py_repH ex h2 e2, s1, s2, k _ _ _ _ nBl g⟩
/-- x is None, x is not None -/
def D.isN : D → Bool
  | .non => true
  | _ => false
def gIsN : G2 := fun d e q => obB e.isN (q (.fr (.bl d.isN)))
def gNotN : G2 := fun d e q => obB e.isN (q (.fr (.bl (!d.isN))))
theorem isN_of (h : RepH K F H d x) : decide (x = .non) = d.isN := by
  cases d with
  | non => rw [hNon h]; rfl
  | bl b => rw [hBl h]; rfl
  | int b => rw [hInt h]; rfl
  | str b => rw [hStr h]; rfl
  | adr a => rw [rep_adr.mp (show Rep K F (.adr a) x from h)]; rfl
  | tup ds => obtain ⟨a, vs, rfl, _⟩ := hTup h; rfl
  | lst ds => obtain ⟨a, vs, rfl, _⟩ := hLst h; rfl
  | rl ds => obtain ⟨a, vs, rfl, _⟩ := hRl h; rfl
  | obj C ns ds => obtain ⟨a, dx, us, rfl, _⟩ := h; rfl
theorem isN_non (h : RepH K F H d x) (e : d.isN = true) : x = .non := by
  have := isN_of h
  rw [e] at this
  exact of_decide_eq_true this
theorem vo_isN : VO2 K (fun x y H Q => y = .non ∧ Q (.bl (decide (x = .non))) H) gIsN := fun F H x y d e q Q ex h1 h2 g k =>
  ⟨isN_non h2 (obB_iff.mp g).1, by rw [isN_of h1]; exact k _ _ _ _ nBl (obB_iff.mp g).2⟩
theorem vo_notN : VO2 K (fun x y H Q => y = .non ∧ Q (.bl (!decide (x = .non))) H) gNotN := fun F H x y d e q Q ex h1 h2 g k =>
  ⟨isN_non h2 (obB_iff.mp g).1, by rw [isN_of h1]; exact k _ _ _ _ nBl (obB_iff.mp g).2⟩
/-- a is True (bools) -/
def gIsB (p : Bool → Bool → Bool) : G2 := fun d e q => match d, e with
  | .bl i, .bl j => q (.fr (.bl (p i j)))
  | _, _ => False
theorem vo_isB : VO2 K rIsB (gIsB fun a b => decide (a = b)) := by
  intro F H x y d e q Q ex h1 h2 g k
  cases d with
  | bl i => cases e with
    | bl j => exact ⟨i, j, hBl h1, hBl h2, k _ _ _ _ nBl g⟩
    | _ => exact g.elim
  | _ => exact g.elim
theorem vo_notB : VO2 K rNotB (gIsB fun a b => !decide (a = b)) := by
  intro F H x y d e q Q ex h1 h2 g k
  cases d with
  | bl i => cases e with
    | bl j => exact ⟨i, j, hBl h1, hBl h2, k _ _ _ _ nBl g⟩
    | _ => exact g.elim
  | _ => exact g.elim
/-- a text in a text -/
def gInS (p : Bool → Bool) : G2 := fun d e q => match d, e with
  | .str i, .str j => q (.fr (.bl (p (!(Builtin.Str.occurrences j i 0 j.length 1).isEmpty))))
  | _, _ => False
theorem vo_inS : VO2 K (fun x y H Q => ∃ i j, x = .str i ∧ y = .str j ∧ Q (.bl (!(Builtin.Str.occurrences j i 0 j.length 1).isEmpty)) H) (gInS id) := by
  intro F H x y d e q Q ex h1 h2 g k
  cases d with
  | str i => cases e with
    | str j => exact ⟨i, j, hStr h1, hStr h2, k _ _ _ _ nBl g⟩
    | _ => exact g.elim
  | _ => exact g.elim
theorem vo_notinS : VO2 K (fun x y H Q => ∃ i j, x = .str i ∧ y = .str j ∧ Q (.bl (!(!(Builtin.Str.occurrences j i 0 j.length 1).isEmpty))) H) (gInS not) := by
  intro F H x y d e q Q ex h1 h2 g k
  cases d with
  | str i => cases e with
    | str j => exact ⟨i, j, hStr h1, hStr h2, k _ _ _ _ nBl g⟩
    | _ => exact g.elim
  | _ => exact g.elim

/-! ### an item, a slice -/
def D.items : D → Option (List D)
  | .tup ds => some ds
  | .lst ds => some ds
  | .rl ds => some ds
  | _ => none
theorem ixN_at {α β : Type} {xs : List α} {ys : List β} {i : Int} {j : Nat} (hl : xs.length = ys.length) (h : ixN xs.length i = some j) : ixN ys.length i = some j := by rw [← hl]; exact h
theorem atI_rep {ds : List D} {vs : List V} {i : Int} (h : RepL K F ds vs) (e : atI ds i = some d) : ∃ v, atI vs i = some v ∧ Rep K F d v := by
  unfold atI at e ⊢
  rw [← h.length]
  cases q : ixN ds.length i with
  | none => rw [q] at e; cases e
  | some j =>
    rw [q] at e
    obtain ⟨v, hv, r⟩ := h.get (i := j) (d := d) e
    exact ⟨v, hv, r⟩
def gIx : G2 := fun d e q => match d, e with
  | .tup ds, .int i => ob (atI ds i) fun x => q (.fr x)
  | .lst ds, .int i => ob (atI ds i) fun x => q (.fr x)
  | .rl ds, .int i => ob (atI ds i) fun x => q (.fr x)
  | .str z, .int i => z.length ≤ 100000 ∧ ob (atI z.cps.toList i) fun c => q (.fr (.str ⟨#[c]⟩))
  | _, _ => False
theorem vo_ix : VO2 K (rIx K) gIx := by
  intro F H x y d e q Q ex h1 h2 g k
  cases d with
  | tup ds => cases e with
    | int i =>
      obtain ⟨z, g1, g2⟩ := ob_iff.mp g
      obtain ⟨p, vs, rfl, h3, h4⟩ := hTup h1
      obtain ⟨v, e1, r⟩ := atI_rep h4 g1
      exact .inr (.inl ⟨p, vs, i, v, rfl, hInt h2, ex_t ex h3, e1, k _ _ _ _ (.same r) g2⟩)
    | _ => exact g.elim
  | lst ds => cases e with
    | int i =>
      obtain ⟨z, g1, g2⟩ := ob_iff.mp g
      obtain ⟨p, vs, rfl, h3, h4⟩ := hLst h1
      obtain ⟨v, e1, r⟩ := atI_rep h4 g1
      exact .inl ⟨p, vs, i, v, rfl, hInt h2, sq_of h3, e1, k _ _ _ _ (.same r) g2⟩
    | _ => exact g.elim
  | rl ds => cases e with
    | int i =>
      obtain ⟨z, g1, g2⟩ := ob_iff.mp g
      obtain ⟨p, vs, rfl, h3, h4⟩ := hRl h1
      obtain ⟨v, e1, r⟩ := atI_rep h4 g1
      exact .inl ⟨p, vs, i, v, rfl, hInt h2, h3, e1, k _ _ _ _ (.same r) g2⟩
    | _ => exact g.elim
  | str z => cases e with
    | int i =>
      obtain ⟨g0, g⟩ := g
      obtain ⟨c, g1, g2⟩ := ob_iff.mp g
      exact .inr (.inr ⟨z, i, c, hStr h1, hInt h2, sz_of g0, g1, k _ _ _ _ nStr g2⟩)
    | _ => exact g.elim
  | _ => exact g.elim
def cutD (xs : List D) (lo hi : Option Int) : List D := (xs.drop (HT.sIx xs.length 0 lo)).take (HT.sIx xs.length xs.length hi - HT.sIx xs.length 0 lo)
theorem RepL.cut {ds : List D} {vs : List V} (h : RepL K F ds vs) (lo hi : Option Int) : RepL K F (cutD ds lo hi) (cutV vs lo hi) := by
  unfold cutD cutV
  rw [h.length]
  exact (h.drop _).take _
def gSl : G3 := fun d lo hi q => match d with
  | .lst ds => q (.ow (.lst (cutD ds lo hi)))
  | .rl ds => q (.ow (.lst (cutD ds lo hi)))
  | .tup ds => q (.fr (.tup (cutD ds lo hi)))
  | _ => False
def rSlS (K : PySem.W.Frag) : V → Option Int → Option Int → Hp → VK → Prop := fun x lo hi H Q => rSlL K x lo hi H Q ∨ rSlA K x lo hi H Q
theorem sl_any : SlR X (rSlS X.K) := sl_list.or sl_tupA
theorem vo_sl : VO3 K (rSlS K) gSl := by
  intro F H x d lo hi q Q ex h1 g k
  cases d with
  | lst ds =>
    obtain ⟨p, vs, rfl, h3, h4⟩ := hLst h1
    exact .inl ⟨p, vs, rfl, sq_of h3, fun l hl => k _ _ _ _ (.lst hl (h4.cut lo hi)) g⟩
  | rl ds =>
    obtain ⟨p, vs, rfl, h3, h4⟩ := hRl h1
    exact .inl ⟨p, vs, rfl, h3, fun l hl => k _ _ _ _ (.lst hl (h4.cut lo hi)) g⟩
  | tup ds =>
    obtain ⟨p, vs, rfl, h3, h4⟩ := hTup h1
    refine .inr ⟨p, vs, rfl, ex_t ex h3, fun z => ?_, fun z l hl => k _ _ _ _ (NewV.tup hl (h4.cut lo hi)) g⟩
    have e : cutD ds lo hi = ds := by
      unfold cutD
      rw [h4.length, z.1, z.2, List.drop_zero, Nat.sub_zero, ← h4.length, List.take_length]
    have g' : q (.fr (.tup (cutD ds lo hi))) := g
    rw [e] at g'
    exact k _ _ _ _ (.same (rep_tup.mpr ⟨p, vs, rfl, h3, h4⟩)) g'
  | _ => exact g.elim

/-! ### len, tuple, list, abs, max, min, int, gcd, lcm -/
def gLen : G1 := fun d q => match d with
  | .tup ds => q (.fr (.int ds.length))
  | .lst ds => q (.fr (.int ds.length))
  | .rl ds => q (.fr (.int ds.length))
  | .str z => z.length ≤ 100000 ∧ q (.fr (.int z.length))
  | _ => False
abbrev rLenA (K : PySem.W.Frag) : List V → Hp → VK → Prop := fun xs H Q => (∃ p ys, xs = [.ref p] ∧ (SqL K H p ys ∨ SqT K H p ys) ∧ Q (.int ys.length) H) ∨ (∃ z, xs = [.str z] ∧ z.length ≤ sizeLine ∧ Q (.int z.length) H)
theorem call_lenA : CallR X (.builtin "len") (rLenA X.K) := call_len_seq.or call_len_str
theorem vo_len : VOA1 K (rLenA K) gLen := by
  intro F H x d q Q ex h1 g k
  cases d with
  | tup ds =>
    obtain ⟨p, vs, rfl, h3, h4⟩ := hTup h1
    refine .inl ⟨p, vs, rfl, .inr (ex_t ex h3), ?_⟩
    rw [← h4.length]
    exact k _ _ _ _ nInt g
  | lst ds =>
    obtain ⟨p, vs, rfl, h3, h4⟩ := hLst h1
    refine .inl ⟨p, vs, rfl, .inl (sq_of h3), ?_⟩
    rw [← h4.length]
    exact k _ _ _ _ nInt g
  | rl ds =>
    obtain ⟨p, vs, rfl, h3, h4⟩ := hRl h1
    refine .inl ⟨p, vs, rfl, .inl h3, ?_⟩
    rw [← h4.length]
    exact k _ _ _ _ nInt g
  | str z => exact .inr ⟨z, by rw [hStr h1], sz_of g.1, k _ _ _ _ nInt g.2⟩
  | _ => exact g.elim
def gTupOf : G1 := fun d q => match d with
  | .tup ds => q (.fr (.tup ds))
  | .lst ds => q (.fr (.tup ds))
  | .rl ds => q (.fr (.tup ds))
  | _ => False
theorem vo_tupOf : VOA1 K (fun xs H Q => ∃ p ys, xs = [.ref p] ∧ ((SqL K H p ys ∧ ∀ l, H l = none → Q (.ref l) (upd H l (.tup ys))) ∨ (SqT K H p ys ∧ Q (.ref p) H))) gTupOf := by
  intro F H x d q Q ex h1 g k
  cases d with
  | tup ds =>
    obtain ⟨p, vs, rfl, h3, h4⟩ := hTup h1
    exact ⟨p, vs, rfl, .inr ⟨ex_t ex h3, k _ _ _ _ (.same (rep_tup.mpr ⟨p, vs, rfl, h3, h4⟩)) g⟩⟩
  | lst ds =>
    obtain ⟨p, vs, rfl, h3, h4⟩ := hLst h1
    exact ⟨p, vs, rfl, .inl ⟨sq_of h3, fun l hl => k _ _ _ _ (.tup hl h4) g⟩⟩
  | rl ds =>
    obtain ⟨p, vs, rfl, h3, h4⟩ := hRl h1
    exact ⟨p, vs, rfl, .inl ⟨h3, fun l hl => k _ _ _ _ (.tup hl h4) g⟩⟩
  | _ => exact g.elim
def gLstOf : G1 := fun d q => match d with
  | .tup ds => q (.ow (.lst ds))
  | .lst ds => q (.ow (.lst ds))
  | .rl ds => q (.ow (.lst ds))
  | _ => False
theorem vo_lstOf : VOA1 K (fun xs H Q => ∃ p ys, xs = [.ref p] ∧ (SqL K H p ys ∨ SqT K H p ys) ∧ ∀ l, H l = none → Q (.ref l) (upd H l (.lst ys))) gLstOf := by
  intro F H x d q Q ex h1 g k
  cases d with
  | tup ds =>
    obtain ⟨p, vs, rfl, h3, h4⟩ := hTup h1
    exact ⟨p, vs, rfl, .inr (ex_t ex h3), fun l hl => k _ _ _ _ (.lst hl h4) g⟩
  | lst ds =>
    obtain ⟨p, vs, rfl, h3, h4⟩ := hLst h1
    exact ⟨p, vs, rfl, .inl (sq_of h3), fun l hl => k _ _ _ _ (.lst hl h4) g⟩
  | rl ds =>
    obtain ⟨p, vs, rfl, h3, h4⟩ := hRl h1
    exact ⟨p, vs, rfl, .inl h3, fun l hl => k _ _ _ _ (.lst hl h4) g⟩
  | _ => exact g.elim
def gAbs : G1 := fun d q => match d with
  | .int i => q (.fr (.int (if i < 0 then -i else i)))
  | _ => False
theorem vo_abs : VOA1 K (fun xs H Q => ∃ i, xs = [.int i] ∧ Q (.int (if i < 0 then -i else i)) H) gAbs := by
  intro F H x d q Q ex h1 g k
  cases d with
  | int i => exact ⟨i, by rw [hInt h1], k _ _ _ _ nInt g⟩
  | _ => exact g.elim
def gInt : G1 := fun d q => match d with
  | .int i => q (.fr (.int i))
  | .bl c => q (.fr (.int (if c then 1 else 0)))
  | _ => False
theorem vo_int : VOA1 K (fun xs H Q => (∃ i, xs = [.int i] ∧ Q (.int i) H) ∨ ∃ k, xs = [.bl k] ∧ Q (.int (if k then 1 else 0)) H) gInt := by
  intro F H x d q Q ex h1 g k
  cases d with
  | int i => exact .inl ⟨i, by rw [hInt h1], k _ _ _ _ nInt g⟩
  | bl i => exact .inr ⟨i, by rw [hBl h1], k _ _ _ _ nInt g⟩
  | _ => exact g.elim
theorem rep2 {i j : D} {xs : List V} (h : RepL K F [i, j] xs) : ∃ v w, xs = [v, w] ∧ Rep K F i v ∧ Rep K F j w := by
  obtain ⟨v, r, rfl, h1, h2⟩ := repL_cons.mp h
  obtain ⟨w, r, rfl, h3, h4⟩ := repL_cons.mp h2
  rw [repL_nil.mp h4]
  exact ⟨v, w, rfl, h1, h3⟩
theorem rep1 {i : D} {xs : List V} (h : RepL K F [i] xs) : ∃ v, xs = [v] ∧ Rep K F i v := by
  obtain ⟨v, r, rfl, h1, h2⟩ := repL_cons.mp h
  rw [repL_nil.mp h2]
  exact ⟨v, rfl, h1⟩
def gMax2 : GA := fun ds q => match ds with
  | [.int i, .int j] => q (.fr (.int (if j > i then j else i)))
  | _ => False
theorem vo_max2 : VOA K (fun xs H Q => ∃ i j, xs = [.int i, .int j] ∧ Q (.int (if j > i then j else i)) H) gMax2 := by
  intro F H xs ds q Q ex h1 g k
  unfold gMax2 at g
  split at g
  · rename_i i j
    obtain ⟨v, w, rfl, r1, r2⟩ := rep2 h1
    rw [rep_int.mp r1, rep_int.mp r2]
    exact ⟨i, j, rfl, k _ _ _ _ nInt g⟩
  · exact g.elim
def gMin2 : GA := fun ds q => match ds with
  | [.int i, .int j] => q (.fr (.int (if j < i then j else i)))
  | _ => False
theorem vo_min2 : VOA K (fun xs H Q => ∃ i j, xs = [.int i, .int j] ∧ Q (.int (if j < i then j else i)) H) gMin2 := by
  intro F H xs ds q Q ex h1 g k
  unfold gMin2 at g
  split at g
  · rename_i i j
    obtain ⟨v, w, rfl, r1, r2⟩ := rep2 h1
    rw [rep_int.mp r1, rep_int.mp r2]
    exact ⟨i, j, rfl, k _ _ _ _ nInt g⟩
  · exact g.elim
def gGcd : GA := fun ds q => match ds with
  | [.int i, .int j] => q (.fr (.int (Int.gcd i j : Nat)))
  | _ => False
theorem vo_gcd : VOA K rGcd gGcd := by
  intro F H xs ds q Q ex h1 g k
  unfold gGcd at g
  split at g
  · rename_i i j
    obtain ⟨v, w, rfl, r1, r2⟩ := rep2 h1
    rw [rep_int.mp r1, rep_int.mp r2]
    exact ⟨i, j, rfl, k _ _ _ _ nInt g⟩
  · exact g.elim
/-- lcm of ints below 2 ^ 64 -/
def rLcm : List V → Hp → VK → Prop := fun vs H Q => ∃ a b : Int, vs = [.int a, .int b] ∧ a.natAbs < 2 ^ 64 ∧ b.natAbs < 2 ^ 64 ∧ Q (.int ((Nat.lcm a.natAbs b.natAbs : Nat) : Int)) H
theorem cr_lcm : CallR X (.builtin "math.lcm") rLcm := by
  intro pins s σ H vs us Q I r h
  obtain ⟨a, b, rfl, ha, hb, q⟩ := h
  obtain ⟨t, u, rfl⟩ := Vals.int2 r
  have e1 : Nat.lcm 1 a.natAbs = a.natAbs := Nat.lcm_one_left _
  refine PySem.W.mg_lcm ha hb ?_ ?_
  · rw [e1]
    have h1 : Nat.lcm a.natAbs b.natAbs ≤ a.natAbs * b.natAbs := by
      by_cases z : a.natAbs * b.natAbs = 0
      · rcases Nat.mul_eq_zero.mp z with z | z <;> rw [z] <;> simp
      · exact Nat.le_of_dvd (Nat.pos_of_ne_zero z) (Nat.lcm_dvd_mul _ _)
    have h2 : a.natAbs * b.natAbs < 2 ^ 128 := by
      have : a.natAbs * b.natAbs < 2 ^ 64 * 2 ^ 64 := Nat.mul_lt_mul'' ha hb
      simpa using this
    have h3 : Nat.lcm a.natAbs b.natAbs < 2 ^ 128 := Nat.lt_of_le_of_lt h1 h2
    have h4 := PySem.Flt.log2_lt_of (by decide : 0 < 128) (show (((Nat.lcm a.natAbs b.natAbs : Nat) : Int)).natAbs < 2 ^ 128 from h3)
    have e : bitsLine = 134217728 := by decide
    rw [e]
    omega
  · rw [e1]
    exact ⟨.int _, H, I.tok _, ⟨_, rfl⟩, q⟩
def gLcm : GA := fun ds q => match ds with
  | [.int i, .int j] => i.natAbs < 2 ^ 64 ∧ j.natAbs < 2 ^ 64 ∧ q (.fr (.int (Nat.lcm i.natAbs j.natAbs : Nat)))
  | _ => False
theorem vo_lcm : VOA K rLcm gLcm := by
  intro F H xs ds q Q ex h1 g k
  unfold gLcm at g
  split at g
  · rename_i i j
    obtain ⟨v, w, rfl, r1, r2⟩ := rep2 h1
    rw [rep_int.mp r1, rep_int.mp r2]
    exact ⟨i, j, rfl, g.1, g.2.1, k _ _ _ _ nInt g.2.2⟩
  · exact g.elim
end
end DL
end
section
set_option Elab.async false
set_option linter.all false
set_option maxRecDepth 100000
set_option maxHeartbeats 4000000
/-! DL5: contracts of defs by data; calls of defs, of methods, of properties; making objects. -/
namespace DL
open PySem PySem.Spec PyProof.Rows L2 Evl

/-- a contract: for each index the arguments, what must hold, the result -/
structure Ct where
  α : Type
  args : α → List D
  pre : α → Prop
  res : α → Res
def New (F F' H : Hp) : Prop := ∀ a o, F' a = some o → F a = some o ∨ H a = none ∨ ∃ x, o = .own x
/-- a result handed back -/
def ResR (K : PySem.W.Frag) (F' H H' : Hp) (v : V) : Res → Prop
  | .fr d => Rep K F' d v
  | .ow o => ∃ a, v = .ref a ∧ OwAt K F' H' a o ∧ F' a = none ∧ H a = none
  | .sl _ => False
def Ct.sp (K : PySem.W.Frag) (c : Ct) : Sp := fun vs H Q _ => ∃ (F : Hp) (a : c.α), Ex F H ∧ RepL K F (c.args a) vs ∧ c.pre a ∧
  ∀ v H' F', Ex H H' → Ex F F' → Ex F' H' → New F F' H → ResR K F' H H' v (c.res a) → Q v H'
/-- a contract of a def that changes what its first argument owns -/
structure Cw where
  α : Type
  own : α → Ow
  args : α → List D
  pre : α → Prop
  res : α → Res
  out : α → Ow
def Cw.sp (K : PySem.W.Frag) (c : Cw) : Sp := fun vs H Q _ => ∃ (F : Hp) (a : c.α) (p : Addr) (vs' : List V), vs = .ref p :: vs' ∧ Ex F H ∧ F p = none ∧ OwAt K F H p (c.own a) ∧ RepL K F (c.args a) vs' ∧ c.pre a ∧
  ∀ v H' F', (∀ b o, b ≠ p → H b = some o → H' b = some o) → Ex F F' → Ex F' H' → New F F' H → F' p = none → OwAt K F' H' p (c.out a) → ResR K F' H H' v (c.res a) → Q v H'

section
variable {z : Cz} {F F' H H' : Hp} {ρ : Ro} {σ : L2.St} {v : V} {r : Res}
/-- behind a call -/
theorem Sta.called (S : Sta z F H ρ σ) (e : Ex H H') (f : Ex F F') (g : Ex F' H') (n : New F F' H) (h : ResR z.K F' H H' v r) : Sta z F' H' ρ σ ∧ ResOK z F' H' ρ σ v r := by
  refine ⟨S.grow f e g n, ?_⟩
  cases r with
  | fr d => exact h
  | ow o =>
    obtain ⟨a, e1, h1, h2, h3⟩ := h
    exact ⟨a, e1, h1, h2, S.h0 h3, S.far h3⟩
  | sl j => exact h.elim
/-- behind a call that has changed the owned slot j -/
theorem Sta.calledW {j : Nat} {p : Addr} {o o' : Ow} (S : Sta z F H ρ σ) (hj : ρ[j]? = some (.ow o)) (hv : σ[j]? = some (some (.ref p))) (e : ∀ b u, b ≠ p → H b = some u → H' b = some u) (f : Ex F F') (g : Ex F' H') (n : New F F' H) (fp : F' p = none)
    (q : OwAt z.K F' H' p o') (h : ResR z.K F' H H' v r) : Sta z F' H' (ρ.set j (.ow o')) σ ∧ ResOK z F' H' (ρ.set j (.ow o')) σ v r := by
  have hk : j < ρ.length := (List.getElem?_eq_some_iff.mp hj).1
  obtain ⟨fa, hio⟩ := S.rf j o p hj hv
  obtain ⟨w, hw, p', e1, q0⟩ := S.sl j _ hj
  rw [hv] at hw
  rw [← Option.some.inj hw] at e1
  have e2 : p = p' := by cases e1; rfl
  subst e2
  obtain ⟨u0, hu0⟩ := q0.some
  have S1 : Sta z F' H' (ρ.set j (.ow o')) σ := by
    refine ⟨g, S.f0.trans f, fun b u k => ?_, fun b u k m => ?_, fun b k => ?_, by rw [List.length_set]; exact S.len, fun i s k => ?_, fun i k o1 o2 b ne q1 q2 => ?_, fun i o1 b q1 q2 => ?_, fun b k => ?_⟩
    · rcases n b u k with k' | k' | k'
      · exact S.nw b u k'
      · exact .inr (.inl (S.h0 k'))
      · exact .inr (.inr k')
    · have nb : b ≠ p := fun e => by
        subst e
        rcases hio with hio | hio
        · exact m hio
        · rw [hio] at k; cases k
      exact e b u nb (S.kp b u k m)
    · by_cases e' : b = p
      · subst e'
        obtain ⟨u, hu⟩ := q.some
        rw [hu]
        exact fun z => nomatch z
      · cases k' : H b with
        | none => exact (S.al b k k').elim
        | some u => rw [e b u e' k']; exact fun z => nomatch z
    · by_cases e' : i = j
      · subst e'
        rw [List.getElem?_set_self hk] at k
        rw [← Option.some.inj k]
        exact ⟨_, hv, p, rfl, q⟩
      · rw [List.getElem?_set_ne (Ne.symm e')] at k
        obtain ⟨w, hw, q2⟩ := S.sl i s k
        refine ⟨w, hw, ?_⟩
        cases s with
        | un => trivial
        | fr d => obtain ⟨x, e1, r⟩ := q2; exact ⟨x, e1, r.mono f⟩
        | ow o1 =>
          obtain ⟨b, e1, q3⟩ := q2
          refine ⟨b, e1, ?_⟩
          subst e1
          have nb : b ≠ p := fun e2 => S.ap i j o1 o b e' k hj hw (by rw [e2]; exact hv)
          cases o1 with
          | lst ds => obtain ⟨vs, g1, g2⟩ := q3; exact ⟨vs, e _ _ nb g1, g2.mono f⟩
          | obj C ns ds =>
            obtain ⟨dx, us, g1, g2, g3, g4⟩ := q3
            exact ⟨dx, us, e _ _ nb g1, e _ _ (fun e2 => by subst e2; exact (q0.not_own g2).elim) g2, g3, g4.mono f⟩
    · by_cases e1 : i = j
      · subst e1
        have e2 : k ≠ i := fun e => ne e.symm
        rw [List.getElem?_set_ne (Ne.symm e2)] at q2
        exact fun q3 => S.ap i k o o2 b ne hj q2 q3
      · rw [List.getElem?_set_ne (Ne.symm e1)] at q1
        by_cases e2 : k = j
        · subst e2
          exact fun q3 => S.ap i k o1 o b ne q1 hj q3
        · rw [List.getElem?_set_ne (Ne.symm e2)] at q2
          exact S.ap i k o1 o2 b ne q1 q2
    · by_cases e1 : i = j
      · subst e1
        rw [hv] at q2
        have e4 : p = b := by cases q2; rfl
        subst e4
        exact ⟨fp, hio⟩
      · rw [List.getElem?_set_ne (Ne.symm e1)] at q1
        obtain ⟨h1, h2⟩ := S.rf i o1 b q1 q2
        refine ⟨?_, h2⟩
        have nb : b ≠ p := fun e2 => S.ap i j o1 o b e1 q1 hj q2 (by rw [e2]; exact hv)
        cases k' : F' b with
        | none => rfl
        | some u =>
          obtain ⟨w, hw, c, e1, r⟩ := S.sl i _ q1
          rw [q2] at hw
          rw [← Option.some.inj hw] at e1
          have e4 : b = c := by cases e1; rfl
          subst e4
          obtain ⟨u', hu'⟩ := r.some
          rcases n _ _ k' with k2 | k2 | ⟨x, k2⟩
          · rw [h1] at k2; cases k2
          · rw [hu'] at k2; cases k2
          · subst k2
            have := g _ _ k'
            rw [e b u' nb hu'] at this
            rw [Option.some.inj this] at hu'
            exact (r.not_own hu').elim
    · obtain ⟨o1, g1, g2⟩ := S.ioz b k
      by_cases e' : j = 0
      · subst e'
        exact ⟨o', List.getElem?_set_self hk, g2⟩
      · exact ⟨o1, by rw [List.getElem?_set_ne e']; exact g1, g2⟩
  refine ⟨S1, ?_⟩
  cases r with
  | fr d => exact h
  | ow o1 =>
    obtain ⟨a, e1, h1, h2, h3⟩ := h
    refine ⟨a, e1, h1, h2, S.h0 h3, fun i o2 q1 q2 => ?_⟩
    by_cases e' : i = j
    · subst e'
      rw [hv] at q2
      have e4 : p = a := by cases q2; rfl
      subst e4
      rw [hu0] at h3
      cases h3
    · rw [List.getElem?_set_ne (Ne.symm e')] at q1
      exact S.far h3 i o2 q1 q2
  | sl j => exact h.elim
end

/-- a global def that keeps a contract, at level k; dds: the defaults that fill up -/
structure Gd (P : Program) (w : World) (K : PySem.W.Frag) (mg : Str → Option Value) (base : Heap) (x : Str) (k : Nat) (dds : List D) (sp : Sp) : Prop where
  ex : ∃ (dvs : List V) (f : Addr) (fd : FuncData) (ps : List Str) (us : List Value), mg x = some (.ref f) ∧ PySem.W.keepIn K (.ref f) = true ∧ Binds K fd ps us ∧ Vals dvs us ∧ (∀ F, RepL K F dds dvs) ∧ FnOk P w K mg base CX0 k f fd ps sp
noncomputable def Gd.dvs {P : Program} {w : World} {K : PySem.W.Frag} {mg : Str → Option Value} {base : Heap} {x : Str} {k : Nat} {dds : List D} {sp : Sp} (G : Gd P w K mg base x k dds sp) : List V := G.ex.choose

section
variable {X : Cx} {b : Bool} {e o : Expr} {es : List Expr} {te to : TE} {t d0 : DE} {ta : TA} {dr : DA} {pos p apos : Pos} {x : Str} {k : Nat} {dds : List D}
/-- f(e, ..) -/
def dCall (c : Ct) (dds : List D) (u : DA) : DE := fun ρ Q => u ρ fun ds ρ1 => ∃ a : c.α, ds ++ dds = c.args a ∧ c.pre a ∧ Q (c.res a) ρ1
theorem dv_call {z : Cz} {c : Ct} {K : PySem.W.Frag} {dvs : List V} {E : XK} (hK : z.K = K) (hd : ∀ F, RepL K F dds dvs) (ha : DVA z ta dr) : DV z (tCall (c.sp K) dvs E ta) (dCall c dds dr) := by
  subst hK
  intro F H ρ σ Q R S q kk
  refine ha F H ρ σ _ _ S q fun vs H1 F1 ρ1 ds e1 S1 o1 q1 => ?_
  obtain ⟨a, ea, hp, q2⟩ := q1
  refine ⟨F1, a, S1.fh, ?_, hp, fun v H' F' g1 g2 g3 g4 g5 => ?_⟩
  · rw [← ea]
    exact o1.append (hd F1)
  · obtain ⟨S2, o2⟩ := S1.called g1 g2 g3 g4 g5
    exact kk v H' F' ρ1 _ (e1.trans g2) S2 o2 q2
theorem pd_call {c : Ct} (G : Gd X.prog X.w X.K X.mg X.base x k dds (c.sp X.K)) (hr : Room k X.A) (ha : PDA X b (e :: es) ta dr) (hgl : Gl X x := by rfl) (hdb : (x == ("__debug__" : Str)) = false := by decide)
    (he : starEach (e :: es) X.env = (false, eval e X.env) :: starEach es X.env := by rfl) (hpl : (backTo pos (starEach es X.env)).any (·.1) = false := by rfl) : PD X b (.Call (.Name x p) (e :: es) [] pos) (tCall (c.sp X.K) G.dvs E0 ta) (dCall c dds dr) := by
  obtain ⟨f, fd, ps, us, h1, h2, h3, h4, h5, h6⟩ := G.ex.choose_spec
  refine ⟨pe_call h6 hr hgl h1 h2 h3 h4 pass0 ha.pa hdb he hpl, fun z hz => dv_call hz.1 h5 (ha.dv z hz)⟩
theorem pd_call0 {c : Ct} (G : Gd X.prog X.w X.K X.mg X.base x k dds (c.sp X.K)) (hr : Room k X.A) (hgl : Gl X x := by rfl) (hdb : (x == ("__debug__" : Str)) = false := by decide) : PD X b (.Call (.Name x p) [] [] pos) (tCall (c.sp X.K) G.dvs E0 tNil) (dCall c dds dNil) := by
  obtain ⟨f, fd, ps, us, h1, h2, h3, h4, h5, h6⟩ := G.ex.choose_spec
  refine ⟨pe_call0 h6 hr hgl h1 h2 h3 h4 pass0 hdb, fun z hz => dv_call hz.1 h5 (pda_nil.dv z hz)⟩
/-- f(x, ..), x a name whose slot j is owned and changed -/
def dCallW (c : Cw) (j : Nat) (u : DA) : DE := fun ρ Q => u ρ fun ds ρ1 => ∃ a : c.α, ρ1[j]? = some (.ow (c.own a)) ∧ ds = c.args a ∧ c.pre a ∧ Q (c.res a) (ρ1.set j (.ow (c.out a)))
theorem dv_callW {z : Cz} {c : Cw} {E : XK} {j : Nat} (ha : DVA z ta dr) : DV z (tCall (c.sp z.K) [] E (tCons (tVar j) ta)) (fun ρ Q => (∃ o, ρ[j]? = some (.ow o)) ∧ dCallW c j dr ρ Q) := by
  intro F H ρ σ Q R S q kk
  obtain ⟨⟨o, hj⟩, q⟩ := q
  obtain ⟨w, hw, p, e0, q0⟩ := S.sl j _ hj
  subst e0
  refine ⟨.ref p, hw, ?_⟩
  refine ha F H ρ σ _ _ S q fun vs H1 F1 ρ1 ds e1 S1 o1 q1 => ?_
  obtain ⟨a, ej, ea, hp, q2⟩ := q1
  obtain ⟨w', hw', p', e0', q0'⟩ := S1.sl j _ ej
  rw [hw] at hw'
  rw [← Option.some.inj hw'] at e0'
  have e4 : p = p' := by cases e0'; rfl
  subst e4
  refine ⟨F1, a, p, vs, by rw [List.append_nil], S1.fh, (S1.rf j _ p ej hw).1, q0', by rw [← ea]; exact o1, hp, fun v H' F' g1 g2 g3 g4 g5 g6 g7 => ?_⟩
  obtain ⟨S2, o2⟩ := S1.calledW ej hw g1 g2 g3 g4 g5 g6 g7
  exact kk v H' F' _ _ (e1.trans g2) S2 o2 q2
theorem pd_callW {c : Cw} {y : Str} {py : Pos} (j : Nat) (G : Gd X.prog X.w X.K X.mg X.base x k [] (c.sp X.K)) (hr : Room k X.A) (hN : X.N[j]? = some y) (hv : Vis X.env.scope y) (ha : PDA X b es ta dr) (hgl : Gl X x := by rfl) (hdb : (x == ("__debug__" : Str)) = false := by decide)
    (hdy : (y == ("__debug__" : Str)) = false := by decide) (hcd : (y == ("__classdict__" : Str)) = false := by decide) (he : starEach (.Name y py :: es) X.env = (false, eval (.Name y py) X.env) :: starEach es X.env := by rfl) (hpl : (backTo pos (starEach es X.env)).any (·.1) = false := by rfl) :
    PD X b (.Call (.Name x p) (.Name y py :: es) [] pos) (tCall (c.sp X.K) [] E0 (tCons (tVar j) ta)) (fun ρ Q => (∃ o, ρ[j]? = some (.ow o)) ∧ dCallW c j dr ρ Q) := by
  obtain ⟨dvs, f, fd, ps, us, h1, h2, h3, h4, h5, h6⟩ := G.ex
  have e0 : dvs = [] := repL_nil.mp (h5 (fun _ => none))
  subst e0
  refine ⟨pe_call h6 hr hgl h1 h2 h3 h4 pass0 (pa_cons (pe_var hN hv hdy hcd) ha.pa he) hdb he hpl, fun z hz => ?_⟩
  have e1 : X.K = z.K := hz.1.symm
  rw [e1]
  exact dv_callW (ha.dv z hz)
/-- a method, at level k, of the class at C -/
structure Md (P : Program) (w : World) (K : PySem.W.Frag) (mg : Str → Option Value) (base : Heap) (C : Addr) (m : Str) (k : Nat) (sp : Sp) : Prop where
  cl : Cls K C
  ex : ∃ (f : Addr) (fd : FuncData) (ps : List Str), Meth K C m f ∧ Binds K fd ps [] ∧ FnOk P w K mg base CX0 k f fd ps sp
/-- o.m(e, ..), o a frozen object (or one that is frozen for it) -/
def dMeth (b : Bool) (C : Addr) (m : Str) (c : Ct) (t : DE) (u : DA) : DE := fun ρ Q => t ρ fun r ρ1 => fx b ρ1 r fun d ρ2 => (∃ ns ds, d = .obj C ns ds ∧ (ns.zip ds).lookup m = none) ∧ u ρ2 fun ds ρ3 => ∃ a : c.α, d :: ds = c.args a ∧ c.pre a ∧ Q (c.res a) ρ3
theorem lookup_zip_none {α β : Type} {f : Str} : ∀ {ns : List Str} {ds : List α} {us : List β}, ds.length = us.length → (ns.zip ds).lookup f = none → (ns.zip us).lookup f = none
  | [], _, _, _, h => by simp
  | n :: ns, [], us, e, h => by
    have : us = [] := List.length_eq_zero_iff.mp e.symm
    subst this
    simp
  | n :: ns, d :: ds, [], e, h => by simp
  | n :: ns, d :: ds, u :: us, e, h => by
    rw [List.zip_cons_cons, List.lookup_cons] at h ⊢
    cases q : f == n with
    | true => simp only [q] at h; cases h
    | false =>
      simp only [q] at h ⊢
      exact lookup_zip_none (by simpa using e) h
theorem dv_meth {z : Cz} {C : Addr} {m : Str} {c : Ct} {E : XK} {tt : TE} (hb : z.io.isSome = b) (h : DV z tt t) (ha : DVA z ta dr) : DV z (tMeth C m (c.sp z.K) [] E tt ta) (dMeth b C m c t dr) := by
  intro F H ρ σ Q R S q kk
  refine h F H ρ σ _ _ S q fun v H1 F1 ρ1 r e1 S1 o1 q1 => ?_
  obtain ⟨F2, ρ2, d, e2, S2, o2, ⟨ns, ds, ed, hl⟩, q2⟩ := S1.fix hb o1 q1
  subst ed
  obtain ⟨a, dx, us, rfl, g1, g2, g3, g4⟩ := rep_obj.mp o2
  refine ⟨a, dx, _, rfl, S2.fh _ _ g1, lookup_zip_none g4.length hl, ?_⟩
  refine ha F2 H1 ρ2 σ _ _ S2 q2 fun vs H3 F3 ρ3 ds' e3 S3 o3 q3 => ?_
  obtain ⟨a', ea, hp, q4⟩ := q3
  refine ⟨F3, a', S3.fh, ?_, hp, fun v H' F' k1 k2 k3 k4 k5 => ?_⟩
  · rw [← ea, List.append_nil]
    exact RepL.cons (Rep.mono e3 o2) o3
  · obtain ⟨S4, o4⟩ := S3.called k1 k2 k3 k4 k5
    exact kk v H' F' ρ3 _ (((e1.trans e2).trans e3).trans k2) S4 o4 q4
theorem pd_meth {C : Addr} {m : Str} {c : Ct} {pl : Sem Bool} (M : Md X.prog X.w X.K X.mg X.base C m k (c.sp X.K)) (hr : Room k X.A) (ho : PD X b o to d0) (ha : PDA X b (e :: es) ta dr) (hst : starEach (e :: es) X.env = (false, eval e X.env) :: starEach es X.env := by rfl) (hpl : (backTo pos (starEach es X.env)).any (·.1) = false := by rfl)
    (ht : eval (.Call (.Attribute o m apos) (e :: es) [] pos) X.env = (do
      let ov ← eval o X.env
      standAt apos.atName
      let (f, first) ← holding [ov] (getMethod ov m pl)
      callWith pos f first (backTo pos (starEach (e :: es) X.env)) (backToKw pos (keywordEach [] X.env))) := by rfl) : PD X b (.Call (.Attribute o m apos) (e :: es) [] pos) (tMeth C m (c.sp X.K) [] E0 to ta) (dMeth b C m c d0 dr) := by
  obtain ⟨f, fd, ps, h1, h3, h6⟩ := M.ex
  refine ⟨pe_meth ho.pe M.cl h1 h6 hr h3 .nil pass0 ha.pa hst hpl ht, fun z hz => ?_⟩
  have e1 : X.K = z.K := hz.1.symm
  rw [e1]
  exact dv_meth hz.2 (ho.dv z hz) (ha.dv z hz)
theorem pd_meth0 {C : Addr} {m : Str} {c : Ct} {pl : Sem Bool} (M : Md X.prog X.w X.K X.mg X.base C m k (c.sp X.K)) (hr : Room k X.A) (ho : PD X b o to d0)
    (ht : eval (.Call (.Attribute o m apos) [] [] pos) X.env = (do
      let ov ← eval o X.env
      standAt apos.atName
      let (f, first) ← holding [ov] (getMethod ov m pl)
      callWith pos f first (backTo pos (starEach [] X.env)) (backToKw pos (keywordEach [] X.env))) := by rfl) : PD X b (.Call (.Attribute o m apos) [] [] pos) (tMeth C m (c.sp X.K) [] E0 to tNil) (dMeth b C m c d0 dNil) := by
  obtain ⟨f, fd, ps, h1, h3, h6⟩ := M.ex
  refine ⟨pe_meth0 ho.pe M.cl h1 h6 hr h3 .nil pass0 ht, fun z hz => ?_⟩
  have e1 : X.K = z.K := hz.1.symm
  rw [e1]
  exact dv_meth hz.2 (ho.dv z hz) (pda_nil.dv z hz)
/-- a property -/
structure Prd (P : Program) (w : World) (K : PySem.W.Frag) (mg : Str → Option Value) (base : Heap) (C : Addr) (m : Str) (k : Nat) (sp : Sp) : Prop where
  cl : Cls K C
  ex : ∃ (p g : Addr) (fd : FuncData) (ps : List Str), PropOf K C m p g ∧ Binds K fd ps [] ∧ FnOk P w K mg base CX0 k g fd ps sp
def dProp (b : Bool) (C : Addr) (c : Ct) (t : DE) : DE := fun ρ Q => t ρ fun r ρ1 => fx b ρ1 r fun d ρ2 => (∃ ns ds, d = .obj C ns ds) ∧ ∃ a : c.α, [d] = c.args a ∧ c.pre a ∧ Q (c.res a) ρ2
theorem dv_prop {z : Cz} {C : Addr} {c : Ct} {E : XK} {tt : TE} (hb : z.io.isSome = b) (h : DV z tt t) : DV z (tProp C (c.sp z.K) [] E tt) (dProp b C c t) := by
  intro F H ρ σ Q R S q kk
  refine h F H ρ σ _ _ S q fun v H1 F1 ρ1 r e1 S1 o1 q1 => ?_
  obtain ⟨F2, ρ2, d, e2, S2, o2, ⟨ns, ds, ed⟩, a', ea, hp, q4⟩ := S1.fix hb o1 q1
  subst ed
  obtain ⟨a, dx, us, rfl, g1, g2, g3, g4⟩ := rep_obj.mp o2
  refine ⟨a, dx, _, rfl, S2.fh _ _ g1, F2, a', S2.fh, ?_, hp, fun v H' F' k1 k2 k3 k4 k5 => ?_⟩
  · rw [← ea]
    exact RepL.cons o2 (repL_nil.mpr rfl)
  · obtain ⟨S4, o4⟩ := S2.called k1 k2 k3 k4 k5
    exact kk v H' F' ρ2 _ ((e1.trans e2).trans k2) S4 o4 q4
theorem pd_prop {C : Addr} {m : Str} {c : Ct} (M : Prd X.prog X.w X.K X.mg X.base C m k (c.sp X.K)) (hr : Room (k + 1) X.A) (ho : PD X b o to d0) (hab : attributeBase o m X.env (eval o X.env) = eval o X.env := by rfl) : PD X b (.Attribute o m pos) (tProp C (c.sp X.K) [] E0 to) (dProp b C c d0) := by
  obtain ⟨p, g, fd, ps, h1, h3, h6⟩ := M.ex
  refine ⟨pe_prop ho.pe M.cl h1 h6 hr h3 .nil pass0 hab, fun z hz => ?_⟩
  have e1 : X.K = z.K := hz.1.symm
  rw [e1]
  exact dv_prop hz.2 (ho.dv z hz)
/-- a class that is made: its __init__ changes the new object -/
structure Mkd (P : Program) (w : World) (K : PySem.W.Frag) (mg : Str → Option Value) (base : Heap) (x : Str) (C : Addr) (k : Nat) (dds : List D) (sp : Sp) : Prop where
  ex : ∃ (dvs : List V) (f : Addr) (fd : FuncData) (ps : List Str) (us : List Value), mg x = some (.ref C) ∧ Mk K C f ∧ Binds K fd ps us ∧ Vals dvs us ∧ (∀ F, RepL K F dds dvs) ∧ FnOk P w K mg base CX0 k f fd ps sp
noncomputable def Mkd.dvs {P : Program} {w : World} {K : PySem.W.Frag} {mg : Str → Option Value} {base : Heap} {x : Str} {C : Addr} {k : Nat} {dds : List D} {sp : Sp} (G : Mkd P w K mg base x C k dds sp) : List V := G.ex.choose
def dMake (C : Addr) (c : Cw) (dds : List D) (u : DA) : DE := fun ρ Q => u ρ fun ds ρ1 => ∃ a : c.α, c.own a = .obj C [] [] ∧ ds ++ dds = c.args a ∧ c.pre a ∧ c.res a = .fr .non ∧ Q (.ow (c.out a)) ρ1
theorem dv_make {z : Cz} {C : Addr} {c : Cw} {K : PySem.W.Frag} {dvs : List V} {E : XK} (hK : z.K = K) (hd : ∀ F, RepL K F dds dvs) (ha : DVA z ta dr) : DV z (tMake C (c.sp K) dvs E ta) (dMake C c dds dr) := by
  subst hK
  intro F H ρ σ Q R S q kk
  refine ha F H ρ σ _ _ S q fun vs H1 F1 ρ1 ds e1 S1 o1 q1 => ?_
  obtain ⟨a, ho, ea, hp, hr, q2⟩ := q1
  intro x dx nx ndx nex
  have e2 : Ex H1 (upd (upd H1 dx (.own x)) x (.ins C dx [])) := (Ex.new ndx).trans (Ex.new (by rw [upd_ne nex.symm]; exact nx))
  have fx : F1 x = none := S1.fz nx
  refine ⟨F1, a, x, _, rfl, S1.fh.trans e2, fx, ?_, by rw [← ea]; exact o1.append (hd F1), hp, fun v H' F' g1 g2 g3 g4 g5 g6 g7 => ?_⟩
  · rw [ho]
    exact ⟨dx, [], upd_same, by rw [upd_ne nex, upd_same], rfl, repL_nil.mpr rfl⟩
  · rw [hr] at g7
    refine ⟨(rep_non (K := z.K) (F := F')).mp g7, ?_⟩
    have hh : Ex H1 H' := fun b o k => by
      have nb : b ≠ x := ne_of_none k nx
      have nd : b ≠ dx := ne_of_none k ndx
      refine g1 b o nb ?_
      rw [upd_ne nb, upd_ne nd]
      exact k
    have nn : New F1 F' H1 := fun b o k => by
      rcases g4 b o k with k' | k' | k'
      · exact .inl k'
      · refine .inr (.inl ?_)
        cases q : H1 b with
        | none => rfl
        | some u => rw [e2 b u q] at k'; cases k'
      · exact .inr (.inr k')
    have S2 := S1.grow g2 hh g3 nn
    refine kk (.ref x) H' F' ρ1 (.ow (c.out a)) (e1.trans g2) S2 ⟨x, rfl, g6, g5, S1.h0 nx, S1.far nx⟩ q2
theorem pd_make {C : Addr} {c : Cw} (G : Mkd X.prog X.w X.K X.mg X.base x C k dds (c.sp X.K)) (hr : Room (k + 1) X.A) (ha : PDA X b (e :: es) ta dr) (hgl : Gl X x := by rfl) (hdb : (x == ("__debug__" : Str)) = false := by decide)
    (he : starEach (e :: es) X.env = (false, eval e X.env) :: starEach es X.env := by rfl) (hpl : (backTo pos (starEach es X.env)).any (·.1) = false := by rfl) : PD X b (.Call (.Name x p) (e :: es) [] pos) (tMake C (c.sp X.K) G.dvs E0 ta) (dMake C c dds dr) := by
  obtain ⟨f, fd, ps, us, h1, h2, h3, h4, h5, h6⟩ := G.ex.choose_spec
  refine ⟨pe_make h2 h6 hr hgl h1 h3 h4 pass0 ha.pa hdb he hpl, fun z hz => dv_make hz.1 h5 (ha.dv z hz)⟩
end
end DL
end
section
set_option Elab.async false
set_option linter.all false
set_option maxRecDepth 100000
set_option maxHeartbeats 4000000
/-! DL6: statements, targets, loops, by data. -/
namespace DL
open PySem PySem.Spec PyProof.Rows L2 Evl

structure DEnds where
  nx : Ro → Prop
  rt : Res → Ro → Prop
  bk : Ro → Prop := fun _ => False
  ct : Ro → Prop := fun _ => False
abbrev DS := DEnds → Ro → Prop
/-- what stands behind, over the heap, is implied by what stands behind, over data -/
structure Lift (z : Cz) (F : Hp) (D : DEnds) (E : Ends) : Prop where
  nx : ∀ F' H' ρ' σ', Ex F F' → Sta z F' H' ρ' σ' → D.nx ρ' → E.nx σ' H'
  rt : ∀ v F' H' ρ' σ' r, Ex F F' → Sta z F' H' ρ' σ' → ResOK z F' H' ρ' σ' v r → D.rt r ρ' → E.rt v H'
  bk : ∀ F' H' ρ' σ', Ex F F' → Sta z F' H' ρ' σ' → D.bk ρ' → E.bk σ' H'
  ct : ∀ F' H' ρ' σ', Ex F F' → Sta z F' H' ρ' σ' → D.ct ρ' → E.ct σ' H'
theorem Lift.mono {z : Cz} {F F1 : Hp} {D : DEnds} {E : Ends} (L : Lift z F D E) (e : Ex F F1) : Lift z F1 D E :=
  ⟨fun F' H' ρ' σ' a => L.nx F' H' ρ' σ' (e.trans a), fun v F' H' ρ' σ' r a => L.rt v F' H' ρ' σ' r (e.trans a), fun F' H' ρ' σ' a => L.bk F' H' ρ' σ' (e.trans a), fun F' H' ρ' σ' a => L.ct F' H' ρ' σ' (e.trans a)⟩
def DVS (z : Cz) (ts : TS) (t : DS) : Prop := ∀ (D : DEnds) (E : Ends) F H ρ σ, Sta z F H ρ σ → t D ρ → Lift z F D E → ts E σ H
structure PDS (X : Cx) (b : Bool) (st : Stmt) (ts : TS) (t : DS) : Prop where
  ps : PS X st ts
  dv : ∀ z, At X b z → DVS z ts t
structure PDSs (X : Cx) (b : Bool) (st : List Stmt) (ts : TS) (t : DS) : Prop where
  ps : PSs X st ts
  dv : ∀ z, At X b z → DVS z ts t
abbrev DG := D → Ro → (Ro → Prop) → Prop
abbrev DGs := List D → Ro → (Ro → Prop) → Prop
def DVG (z : Cz) (g : TG) (d : DG) : Prop := ∀ F H ρ σ x v (Q : Ro → Prop) (R : L2.St → Hp → Prop), Sta z F H ρ σ → Rep z.K F x v → d x ρ Q → (∀ F' H' ρ' σ', Ex F F' → Sta z F' H' ρ' σ' → Q ρ' → R σ' H') → g v σ H R
def DVGs (z : Cz) (g : TGs) (d : DGs) : Prop := ∀ F H ρ σ xs vs (Q : Ro → Prop) (R : L2.St → Hp → Prop), Sta z F H ρ σ → RepL z.K F xs vs → d xs ρ Q → (∀ F' H' ρ' σ', Ex F F' → Sta z F' H' ρ' σ' → Q ρ' → R σ' H') → g vs σ H R
structure PDG (X : Cx) (b : Bool) (tg : Expr) (g : TG) (d : DG) : Prop where
  pg : PG X tg g
  dv : ∀ z, At X b z → DVG z g d
structure PDGs (X : Cx) (b : Bool) (tg : List Expr) (g : TGs) (d : DGs) : Prop where
  pg : PGs X tg g
  dv : ∀ z, At X b z → DVGs z g d
theorem okS {b : Bool} {i : Nat} {z : Cz} (hb : z.io.isSome = b) (h : okB b i = true) : z.io = none ∨ i ≠ 0 := by
  rcases okB_iff h with h | h
  · subst h
    left
    cases e : z.io with
    | none => rfl
    | some a => rw [e] at hb; cases hb
  · exact .inr h

section
variable {X : Cx} {b : Bool} {st : Stmt} {rest sts : List Stmt} {ts us : TS} {t u : DS} {e o : Expr} {te : TE} {de : DE} {pos p p1 p2 : Pos}

theorem pdss_nil : PDSs X b [] tNext (fun D ρ => D.nx ρ) := ⟨pss_nil, fun z hz D E F H ρ σ S q L => L.nx F H ρ σ (Ex.refl F) S q⟩
def dSeq (t u : DS) : DS := fun D ρ => t { D with nx := u D } ρ
theorem dvs_seq {z : Cz} (h1 : DVS z ts t) (h2 : DVS z us u) : DVS z (tSeq ts us) (dSeq t u) := fun D E F H ρ σ S q L =>
  h1 _ _ F H ρ σ S q ⟨fun F' H' ρ' σ' e S' q' => h2 D E F' H' ρ' σ' S' q' (L.mono e), L.rt, L.bk, L.ct⟩
theorem pdss_cons (h1 : PDS X b st ts t) (h2 : PDSs X b rest us u) : PDSs X b (st :: rest) (tSeq ts us) (dSeq t u) := ⟨pss_cons h1.ps h2.ps, fun z hz => dvs_seq (h1.dv z hz) (h2.dv z hz)⟩
theorem pdss_one (h1 : PDS X b st ts t) : PDSs X b [st] ts t := ⟨pss_one h1.ps, h1.dv⟩
theorem pds_pass : PDS X b (.Pass pos) tNext (fun D ρ => D.nx ρ) := ⟨ps_pass, fun z hz D E F H ρ σ S q L => L.nx F H ρ σ (Ex.refl F) S q⟩
theorem pds_break : PDS X b (.Break pos) tBreak (fun D ρ => D.bk ρ) := ⟨ps_break, fun z hz D E F H ρ σ S q L => L.bk F H ρ σ (Ex.refl F) S q⟩
theorem pds_continue : PDS X b (.Continue pos) tCont (fun D ρ => D.ct ρ) := ⟨ps_continue, fun z hz D E F H ρ σ S q L => L.ct F H ρ σ (Ex.refl F) S q⟩
theorem pds_never : PDS X b st tNever (fun _ _ => False) := ⟨ps_never, fun z hz D E F H ρ σ S q L => q.elim⟩
theorem pdss_never : PDSs X b sts tNever (fun _ _ => False) := ⟨pss_never, fun z hz D E F H ρ σ S q L => q.elim⟩
def dDrop (t : DE) : DS := fun D ρ => t ρ fun _ ρ' => D.nx ρ'
theorem pds_expr (h : PD X b e te de) (hs : swapsWith e none pos.line X.env = pure false := by rfl) : PDS X b (.Expr e pos) (tDrop te) (dDrop de) :=
  ⟨ps_expr h.pe hs, fun z hz D E F H ρ σ S q L => h.dv z hz F H ρ σ _ _ S q fun v H' F' ρ' r e S' o q' => L.nx F' H' ρ' σ e S' q'⟩
def dRet (t : DE) : DS := fun D ρ => t ρ fun r ρ' => D.rt r ρ'
theorem pds_ret (h : PD X b e te de) : PDS X b (.Return (some e) pos) (tRet te) (dRet de) :=
  ⟨ps_ret h.pe, fun z hz D E F H ρ σ S q L => h.dv z hz F H ρ σ _ _ S q fun v H' F' ρ' r e S' o q' => L.rt v F' H' ρ' σ r e S' o q'⟩
theorem pds_retN : PDS X b (.Return none pos) tRetN (fun D ρ => D.rt (.fr .non) ρ) :=
  ⟨ps_retN, fun z hz D E F H ρ σ S q L => L.rt .non F H ρ σ (.fr .non) (Ex.refl F) S ((rep_non (K := z.K) (F := F)).mpr rfl) q⟩
def dIfS (c : DT) (t u : DS) : DS := fun D ρ => c ρ fun b ρ' => if b = true then t D ρ' else u D ρ'
theorem pds_if {c : Expr} {a d : List Stmt} {tc : TT} {dc : DT} (hc : PDT X b c tc dc) (ha : PDSs X b a ts t) (hb : PDSs X b d us u) : PDS X b (.If c a d pos) (tIfS tc ts us) (dIfS dc t u) := by
  refine ⟨ps_if hc.pt ha.ps hb.ps, fun z hz D E F H ρ σ S q L => ?_⟩
  refine hc.dv z hz F H ρ σ _ _ S q fun c H' F' ρ' e S' q' => ?_
  cases c with
  | true => exact ha.dv z hz D E F' H' ρ' σ S' q' (L.mono e)
  | false => exact hb.dv z hz D E F' H' ρ' σ S' q' (L.mono e)

/-! ### name = e -/
def dSet (b : Bool) (i : Nat) (t : DE) : DS := fun D ρ => t ρ fun r ρ1 => obB (okB b i) (match r with
  | .fr d => D.nx (ρ1.set i (.fr d))
  | .ow o => D.nx (ρ1.set i (.ow o))
  | .sl j => fx b ρ1 (.sl j) fun d ρ2 => D.nx (ρ2.set i (.fr d)))
theorem dvs_set {z : Cz} {i : Nat} (hb : z.io.isSome = b) (h : DV z te de) : DVS z (tAsg te (gName i)) (dSet b i de) := by
  intro D E F H ρ σ S q L
  refine h F H ρ σ _ _ S q fun v H1 F1 ρ1 r e1 S1 o1 q1 => ?_
  obtain ⟨ok, q1⟩ := obB_iff.mp q1
  have hj := okS hb ok
  cases r with
  | fr d => exact L.nx F1 H1 _ _ e1 (S1.putF o1 hj) q1
  | ow o =>
    obtain ⟨a, rfl, h1, h2, h3, h4⟩ := o1
    exact L.nx F1 H1 _ _ e1 (S1.putO h1 h2 h3 h4 hj) q1
  | sl j =>
    obtain ⟨F2, ρ2, d, e2, S2, o2, q2⟩ := S1.fix hb o1 q1
    exact L.nx F2 H1 _ _ (e1.trans e2) (S2.putF o2 hj) q2
theorem pds_set (i : Nat) {x : Str} (h : PD X b e te de) (hN : X.N.Nodup) (hi : X.N[i]? = some x := by rfl) (hx : Loc X.env.scope x := by first | exact Or.inl rfl | exact Or.inr rfl) (hs : swapsWith e (some (.Name x p)) pos.line X.env = pure false := by rfl)
    (hf : X.fn x = true ∨ X.env.scope.names.lookup x = some .local := by first | exact .inl rfl | exact .inr rfl | assumption) : PDS X b (.Assign [.Name x p] e pos) (tAsg te (gName i)) (dSet b i de) :=
  ⟨ps_set hN hi hx h.pe hs hf, fun z hz => dvs_set hz.2 (h.dv z hz)⟩
/-! ### targets -/
def dgName (b : Bool) (i : Nat) : DG := fun d ρ Q => obB (okB b i) (Q (ρ.set i (.fr d)))
theorem pdg_name (i : Nat) {x : Str} (hN : X.N.Nodup) (hi : X.N[i]? = some x := by rfl) (hx : Loc X.env.scope x := by first | exact Or.inl rfl | exact Or.inr rfl) (hf : X.fn x = true ∨ X.env.scope.names.lookup x = some .local := by first | exact .inl rfl | exact .inr rfl | assumption) :
    PDG X b (.Name x pos) (gName i) (dgName b i) :=
  ⟨pg_name hN hi hx hf, fun z hz F H ρ σ x v Q R S r q k => k F H _ _ (Ex.refl F) (S.putF r (okS hz.2 (obB_iff.mp q).1)) (obB_iff.mp q).2⟩
def dgNil : DGs := fun ds ρ Q => match ds with
  | [] => Q ρ
  | _ => False
def dgCons (g : DG) (u : DGs) : DGs := fun ds ρ Q => match ds with
  | d :: r => g d ρ fun ρ' => u r ρ' Q
  | [] => False
theorem pdgs_nil : PDGs X b [] gNil dgNil := ⟨pgs_nil, fun z hz F H ρ σ xs vs Q R S r q k => match xs, r, q with
  | [], r, q => ⟨repL_nil.mp r, k F H ρ σ (Ex.refl F) S q⟩
  | _ :: _, _, q => q.elim⟩
theorem pdgs_cons {es : List Expr} {g : TG} {gs : TGs} {d : DG} {ds : DGs} (h1 : PDG X b e g d) (h2 : PDGs X b es gs ds) (hs : (assignEach (e :: es) X.env).map (·.2) = assign e X.env :: (assignEach es X.env).map (·.2) := by rfl) : PDGs X b (e :: es) (gCons g gs) (dgCons d ds) := by
  refine ⟨pgs_cons h1.pg h2.pg hs, fun z hz F H ρ σ xs vs Q R S r q k => ?_⟩
  obtain ⟨y, ys, e1⟩ : ∃ y ys, xs = y :: ys := by
    cases xs with
    | nil => exact q.elim
    | cons y ys => exact ⟨y, ys, rfl⟩
  subst e1
  obtain ⟨v, vr, e2, r1, r2⟩ := repL_cons.mp r
  refine ⟨v, vr, e2, ?_⟩
  refine h1.dv z hz F H ρ σ y v _ _ S r1 q fun F' H' ρ' σ' e1 S' q' => ?_
  exact h2.dv z hz F' H' ρ' σ' ys vr Q _ S' (r2.mono e1) q' fun F2 H2 ρ2 σ2 e2 S2 q2 => k F2 H2 ρ2 σ2 (e1.trans e2) S2 q2
def tupAt : D → Option (List D)
  | .tup ds => some ds
  | _ => none
def dgTup (n : Nat) (g : DGs) : DG := fun d ρ Q => ob (tupAt d) fun ds => obB (Nat.beq ds.length n) (g ds ρ Q)
theorem pdg_tup {es : List Expr} {kk : Nat} {gs : TGs} {ds : DGs} {n : Nat} (hc : X.calm = true) (h : PDGs X b es gs ds) (hn : (assignEach es X.env).length = n := by rfl) (hst : (assignEach es X.env).findIdx? (·.1) = none := by rfl) :
    PDG X b (.Tuple es kk pos) (gTup X.K n gs) (dgTup n ds) := by
  refine ⟨pg_tup hc h.pg hn hst, fun z hz F H ρ σ x v Q R S r q k => ?_⟩
  obtain ⟨xs, e1, q1⟩ := ob_iff.mp q
  obtain ⟨e2, q2⟩ := obB_iff.mp q1
  replace e2 := Nat.eq_of_beq_eq_true e2
  have e1 : x = .tup xs := by
    cases x with
    | tup ds => cases e1; rfl
    | _ => cases e1
  subst e1
  obtain ⟨a, vs, rfl, h1, h2⟩ := rep_tup.mp r
  refine ⟨a, vs, rfl, by rw [← hz.1]; exact ex_t S.fh h1, by rw [← h2.length]; exact e2, ?_⟩
  exact h.dv z hz F H ρ σ xs vs Q R S h2 q2 k
/-- target = e, the value frozen -/
def dAsg (b : Bool) (t : DE) (g : DG) : DS := fun D ρ => t ρ fun r ρ1 => fx b ρ1 r fun d ρ2 => g d ρ2 D.nx
theorem pds_asg {tg : Expr} {g : TG} {d : DG} (h : PD X b e te de) (hg : PDG X b tg g d) (hs : swapsWithSole [tg] e pos.line X.env = pure false := by rfl) (hw : swappedStores [tg] e X.env = pure none := by rfl)
    (h1 : (assignEach [tg] X.env).map (·.2) = [assign tg X.env] := by rfl) : PDS X b (.Assign [tg] e pos) (tAsg te g) (dAsg b de d) := by
  refine ⟨ps_asg h.pe hg.pg hs hw h1, fun z hz D E F H ρ σ S q L => ?_⟩
  refine h.dv z hz F H ρ σ _ _ S q fun v H1 F1 ρ1 r e1 S1 o1 q1 => ?_
  obtain ⟨F2, ρ2, x, e2, S2, o2, q2⟩ := S1.fix hz.2 o1 q1
  exact hg.dv z hz F2 H1 ρ2 σ x v _ _ S2 o2 q2 fun F' H' ρ' σ' e3 S' q' => L.nx F' H' ρ' σ' ((e1.trans e2).trans e3) S' q'

/-! ### owned lists: append, pop, x[i] = e; owned objects: x.f = e -/
theorem mut_lst {z : Cz} {F H : Hp} {ρ : Ro} {σ : L2.St} {j : Nat} {ds ds' : List D} {a : Addr} {vs vs' : List V} (S : Sta z F H ρ σ) (h : ρ[j]? = some (.ow (.lst ds))) (hv : σ[j]? = some (some (.ref a))) (ha : H a = some (.lst vs)) (r : RepL z.K F ds' vs') :
    Sta z F (upd H a (.lst vs')) (ρ.set j (.ow (.lst ds'))) σ :=
  S.mutA h hv ha (fun x e => nomatch e) (fun b hb e => by subst e; rw [ha] at hb; cases hb) ⟨vs', upd_same, r⟩
theorem own_lst {z : Cz} {F H : Hp} {ρ : Ro} {σ : L2.St} {j : Nat} {ds : List D} (S : Sta z F H ρ σ) (h : ρ[j]? = some (.ow (.lst ds))) : ∃ a vs, σ[j]? = some (some (.ref a)) ∧ H a = some (.lst vs) ∧ RepL z.K F ds vs := by
  obtain ⟨w, hw, a, e, vs, h1, h2⟩ := S.sl j _ h
  subst e
  exact ⟨a, vs, hw, h1, h2⟩
/-- x.append(e) -/
def owL (ρ : Ro) (j : Nat) : Option (List D) := match ρ[j]? with
  | some (.ow (.lst ds)) => some ds
  | _ => none
theorem owL_ok {ρ : Ro} {j : Nat} {ds : List D} (h : owL ρ j = some ds) : ρ[j]? = some (.ow (.lst ds)) := by
  unfold owL at h
  split at h
  · rename_i ds' e
    rw [e]
    cases h
    rfl
  · cases h
def dApp (b : Bool) (j : Nat) (t : DE) : DE := fun ρ Q => ob (owL ρ j) fun _ => t ρ fun r ρ1 => fx b ρ1 r fun d ρ2 => ob (owL ρ2 j) fun ds => ds.length < 100000 ∧ Q (.fr .non) (ρ2.set j (.ow (.lst (ds ++ [d]))))
theorem dv_app {z : Cz} {j : Nat} (hb : z.io.isSome = b) (h : DV z te de) : DV z (tBM z.K "list" rAppend (tVar j) (tCons te tNil)) (dApp b j de) := by
  intro F H ρ σ Q R S q k
  obtain ⟨ds, h0, q⟩ := ob_iff.mp q
  replace h0 := owL_ok h0
  obtain ⟨a, vs, hv, ha, hr⟩ := own_lst S h0
  refine ⟨.ref a, hv, Or.inl ⟨rfl, vs, sq_of ha⟩, ?_⟩
  refine h F H ρ σ _ _ S q fun v H1 F1 ρ1 r e1 S1 o1 q1 => ?_
  obtain ⟨F2, ρ2, d, e2, S2, o2, q2⟩ := S1.fix hb o1 q1
  obtain ⟨ds', h2, hl, q2⟩ := ob_iff.mp q2
  replace h2 := owL_ok h2
  obtain ⟨a', vs', hv', ha', hr'⟩ := own_lst S2 h2
  rw [hv] at hv'
  have e4 : a = a' := by cases hv'; rfl
  subst e4
  refine ⟨a, vs', v, rfl, rfl, ha', sz_lt (by rw [← hr'.length]; exact hl), ?_⟩
  refine k _ _ F2 _ (.fr .non) (e1.trans e2) (mut_lst S2 h2 hv ha' (hr'.append (RepL.cons o2 (repL_nil.mpr rfl)))) ((rep_non (K := z.K) (F := F2)).mpr rfl) q2
theorem pd_app (j : Nat) {x : Str} {apos : Pos} (h : PD X b e te de) (hN : X.N[j]? = some x := by rfl) (hv : Vis X.env.scope x := by first | exact Or.inl rfl | exact Or.inr (Or.inl rfl) | exact Or.inr (Or.inr rfl)) (hd : (x == ("__debug__" : Str)) = false := by decide)
    (hcd : (x == ("__classdict__" : Str)) = false := by decide) (hbase : attributeBase (.Name x p) "append" X.env (eval (.Name x p) X.env) = eval (.Name x p) X.env := by rfl)
    (hfew : ((backTo pos (starEach [e] X.env)).all (fun x => !x.1) && (backToKw pos (keywordEach [] X.env)).all (fun x => x.1.isSome)
      && decide ([e].length + ([] : List Keyword).length + (if ([] : List Keyword).isEmpty then 0 else 1) < 30)) = true := by rfl)
    (hline : (apos.endLine == pos.line) = true := by rfl) (hs : starEach [e] X.env = (false, eval e X.env) :: starEach [] X.env := by rfl) (hplain : (backTo pos (starEach [] X.env)).any (·.1) = false := by rfl) :
    PD X b (.Call (.Attribute (.Name x p) "append" apos) [e] [] pos) (tBM X.K "list" rAppend (tVar j) (tCons te tNil)) (dApp b j de) :=
  ⟨pe_bm PySem.F.plainAttrs_list PySem.F.slot_list_append PySem.F.type_list_append mt_append (pe_var hN hv hd hcd) (pa_cons h.pe pa_nil hs) hbase hfew hline hs hplain, fun z hz => by rw [← hz.1]; exact dv_app hz.2 (h.dv z hz)⟩
/-- x.pop() -/
def dPop (j : Nat) : DE := fun ρ Q => ob (owL ρ j) fun ds => ob ds[ds.length - 1]? fun d => Q (.fr d) (ρ.set j (.ow (.lst ds.dropLast)))
theorem dv_pop {z : Cz} {j : Nat} : DV z (tBM0 z.K "list" rPop (tVar j)) (dPop j) := by
  intro F H ρ σ Q R S q k
  obtain ⟨ds, h0, q⟩ := ob_iff.mp q
  obtain ⟨d, hd, q⟩ := ob_iff.mp q
  replace h0 := owL_ok h0
  obtain ⟨a, vs, hv, ha, hr⟩ := own_lst S h0
  refine ⟨.ref a, hv, Or.inl ⟨rfl, vs, sq_of ha⟩, ?_⟩
  obtain ⟨y, hy, ry⟩ := hr.get hd
  refine ⟨a, vs, y, rfl, rfl, ha, by rw [← hr.length]; exact hy, ?_⟩
  exact k y _ F _ (.fr d) (Ex.refl F) (mut_lst S h0 hv ha hr.dropLast) ry q
theorem pd_pop (j : Nat) {x : Str} {apos : Pos} (hN : X.N[j]? = some x := by rfl) (hv : Vis X.env.scope x := by first | exact Or.inl rfl | exact Or.inr (Or.inl rfl) | exact Or.inr (Or.inr rfl)) (hd : (x == ("__debug__" : Str)) = false := by decide)
    (hcd : (x == ("__classdict__" : Str)) = false := by decide) (hbase : attributeBase (.Name x p) "pop" X.env (eval (.Name x p) X.env) = eval (.Name x p) X.env := by rfl) (hline : (apos.endLine == pos.line) = true := by rfl) :
    PD X b (.Call (.Attribute (.Name x p) "pop" apos) [] [] pos) (tBM0 X.K "list" rPop (tVar j)) (dPop j) :=
  ⟨pe_bm0 PySem.F.plainAttrs_list PySem.F.slot_list_pop PySem.F.type_list_pop mt_pop (pe_var hN hv hd hcd) hbase hline, fun z hz => by rw [← hz.1]; exact dv_pop⟩
/-- x[i] = e, x an owned list -/
def dSetIx (b : Bool) (j : Nat) (ti : DE) (t : DE) : DS := fun D ρ => t ρ fun r ρ1 => fx b ρ1 r fun d ρ2 => ob (owL ρ2 j) fun _ => ti ρ2 fun ri ρ3 => ob (asI ri) fun i => ob (owL ρ3 j) fun ds => ob (ixN ds.length i) fun k => D.nx (ρ3.set j (.ow (.lst (ds.set k d))))
theorem pds_setIx (j : Nat) {x : Str} {i : Expr} {ti : TE} {di : DE} (h : PD X b e te de) (hi : PD X b i ti di) (hN : X.N[j]? = some x := by rfl) (hv : Vis X.env.scope x := by first | exact Or.inl rfl | exact Or.inr (Or.inl rfl) | exact Or.inr (Or.inr rfl)) (hd : (x == ("__debug__" : Str)) = false := by decide)
    (hcd : (x == ("__classdict__" : Str)) = false := by decide) (ha : ∀ v, assign (.Subscript (.Name x p) i p1) X.env v = (do
      let ov ← holding [v] (eval (.Name x p) X.env)
      let iv ← holding [v, ov] (eval i X.env)
      standAt p1
      holding [v, ov, iv] (setItem ov iv v)
      release [v, ov, iv] []) := by intro _; rfl) (hs : swapsWithSole [.Subscript (.Name x p) i p1] e pos.line X.env = pure false := by rfl) (hw : swappedStores [.Subscript (.Name x p) i p1] e X.env = pure none := by rfl)
    (h1 : (assignEach [.Subscript (.Name x p) i p1] X.env).map (·.2) = [assign (.Subscript (.Name x p) i p1) X.env] := by rfl) : PDS X b (.Assign [.Subscript (.Name x p) i p1] e pos) (tAsg te (L2.gSub (tVar j) ti rSetL)) (dSetIx b j di de) := by
  refine ⟨ps_asg h.pe (pg_sub (pe_var hN hv hd hcd) hi.pe set_list ha) hs hw h1, fun z hz D E F H ρ σ S q L => ?_⟩
  refine h.dv z hz F H ρ σ _ _ S q fun v H1 F1 ρ1 r e1 S1 o1 q1 => ?_
  obtain ⟨F2, ρ2, d, e2, S2, o2, q2⟩ := S1.fix hz.2 o1 q1
  obtain ⟨ds, h2, q2⟩ := ob_iff.mp q2
  replace h2 := owL_ok h2
  obtain ⟨a, vs, hv2, ha2, hr2⟩ := own_lst S2 h2
  refine ⟨.ref a, hv2, ?_⟩
  refine hi.dv z hz F2 H1 ρ2 σ _ _ S2 q2 fun iv H3 F3 ρ3 ri e3 S3 o3 q3 => ?_
  obtain ⟨i, hi', q4⟩ := ob_iff.mp q3
  have er := asI_ok hi'
  subst er
  obtain ⟨ds', h3', q5⟩ := ob_iff.mp q4
  obtain ⟨k, hk, q6⟩ := ob_iff.mp q5
  have h3 := owL_ok h3'
  obtain ⟨a', vs', hv3, ha3, hr3⟩ := own_lst S3 h3
  rw [hv2] at hv3
  have e4 : a = a' := by cases hv3; rfl
  subst e4
  refine ⟨a, vs', i, k, rfl, res_int o3, ha3, by rw [← hr3.length]; exact hk, ?_⟩
  exact L.nx F3 _ _ σ ((e1.trans e2).trans e3) (mut_lst S3 h3 hv2 ha3 (hr3.set (Rep.mono e3 o2) k)) q6
/-- x.f = e, x an owned object -/
def putN (f : Str) (d : D) : List Str → List D → List Str × List D
  | [], _ => ([f], [d])
  | n :: ns, [] => ([f], [d])
  | n :: ns, x :: ds => if n = f then (n :: ns, d :: ds) else (n :: (putN f d ns ds).1, x :: (putN f d ns ds).2)
theorem putN_ok {K : PySem.W.Frag} {F : Hp} {f : Str} {d : D} {v : V} (hv : Rep K F d v) : ∀ {ns : List Str} {ds : List D} {us : List V}, ns.length = us.length → RepL K F ds us →
    ∃ us', putF f v (ns.zip us) = (putN f d ns ds).1.zip us' ∧ (putN f d ns ds).1.length = us'.length ∧ RepL K F (putN f d ns ds).2 us'
  | [], ds, us, e, r => by
    have : us = [] := List.length_eq_zero_iff.mp e.symm
    subst this
    refine ⟨[v], ?_, rfl, ?_⟩
    · unfold putN
      rfl
    · unfold putN
      exact RepL.cons hv (repL_nil.mpr rfl)
  | n :: ns, [], us, e, r => by
    rw [repL_nil] at r
    subst r
    simp at e
  | n :: ns, x :: ds, us, e, r => by
    obtain ⟨w, us2, rfl, r1, r2⟩ := repL_cons.mp r
    unfold putN
    rw [List.zip_cons_cons]
    by_cases h : n = f
    · rw [if_pos h]
      refine ⟨v :: us2, ?_, by simpa using e, RepL.cons hv r2⟩
      show (if n = f then (n, v) :: ns.zip us2 else _) = _
      rw [if_pos h]
      rfl
    · rw [if_neg h]
      obtain ⟨us3, e1, e2, e3⟩ := putN_ok hv (ns := ns) (ds := ds) (us := us2) (by simpa using e) r2
      refine ⟨w :: us3, ?_, by simpa using e2, RepL.cons r1 e3⟩
      show (if n = f then _ else (n, w) :: putF f v (ns.zip us2)) = _
      rw [if_neg h, e1]
      rfl
def dSetFld (K : PySem.W.Frag) (b : Bool) (j : Nat) (f : Str) (t : DE) : DS := fun D ρ => t ρ fun r ρ1 => fx b ρ1 r fun d ρ2 => ∃ C ns ds, ρ2[j]? = some (.ow (.obj C ns ds)) ∧ Cls K C ∧ NoAttr K C f ∧ ns.length < 1000 ∧ D.nx (ρ2.set j (.ow (.obj C (putN f d ns ds).1 (putN f d ns ds).2)))
theorem pds_setFld (j : Nat) {x f : Str} (h : PD X b e te de) (hN : X.N[j]? = some x := by rfl) (hv : Vis X.env.scope x := by first | exact Or.inl rfl | exact Or.inr (Or.inl rfl) | exact Or.inr (Or.inr rfl)) (hd : (x == ("__debug__" : Str)) = false := by decide)
    (hcd : (x == ("__classdict__" : Str)) = false := by decide) (hs : swapsWith e (some (.Attribute (.Name x p) f p1)) pos.line X.env = pure false := by rfl) : PDS X b (.Assign [.Attribute (.Name x p) f p1] e pos) (sFld X.K (tVar j) te f) (dSetFld X.K b j f de) := by
  refine ⟨ps_fld (pe_var hN hv hd hcd) h.pe hs, fun z hz D E F H ρ σ S q L => ?_⟩
  refine h.dv z hz F H ρ σ _ _ S q fun v H1 F1 ρ1 r e1 S1 o1 q1 => ?_
  obtain ⟨F2, ρ2, d, e2, S2, o2, C, ns, ds, h2, c1, c2, hl, q2⟩ := S1.fix hz.2 o1 q1
  obtain ⟨w, hw, a, ea, dx, us, g1, g2, g3, g4⟩ := S2.sl j _ h2
  subst ea
  refine ⟨.ref a, hw, a, C, dx, _, rfl, g1, c1, c2, by rw [List.length_zip]; omega, ?_⟩
  obtain ⟨us', k1, k2, k3⟩ := putN_ok o2 g3 g4
  rw [k1]
  have g5 : OwAt z.K F2 (upd H1 a (.ins C dx ((putN f d ns ds).1.zip us'))) a (.obj C (putN f d ns ds).1 (putN f d ns ds).2) :=
    ⟨dx, us', upd_same, by rw [upd_ne (fun e => by rw [e, g1] at g2; cases g2)]; exact g2, k2, k3⟩
  exact L.nx F2 _ _ σ (e1.trans e2) (S2.mutA h2 hw g1 (fun x e => nomatch e) (fun b hb e => by subst e; rw [g1] at hb; cases hb) g5) q2
end
end DL
end
section
set_option Elab.async false
set_option linter.all false
set_option maxRecDepth 100000
set_option maxHeartbeats 4000000
/-! DL7: what is walked; for, while, comprehensions; a def by its contract. -/
namespace DL
open PySem PySem.Spec PyProof.Rows L2 Evl

/-- a list or a tuple, walked -/
def iSeq (K : PySem.W.Frag) (tl : TE) : TI := fun σ H R => tl σ H fun x H1 => (∃ a, x = .ref a ∧ (∃ xs, SqL K H1 a xs) ∧ R (Itl K a) H1) ∨ (∃ a, x = .ref a ∧ (∃ xs, SqT K H1 a xs) ∧ R (Itt K a) H1)
theorem pi_seq {X : Cx} {tg l : Expr} {tl : TE} (hl : PE X l tl) : PI X tg l (iSeq X.K tl) := by
  refine ⟨fun pins s σ H R I h => ?_⟩
  refine thn (hl.run pins s σ H _ I h) fun v s1 ⟨x, H1, I1, r1, q1⟩ => ?_
  rcases q1 with ⟨a, e, ⟨xs, hq⟩, q⟩ | ⟨a, e, ⟨xs, hq⟩, q⟩
  · subst e
    cases r1
    obtain ⟨its, rv, p, hz⟩ := I1.list hq
    refine wpAny_pyIter_list p.isList ?_
    refine ⟨s1.heap.objs.size, [s1.heap.objs.size], _, _, H1, rfl, I1.kept (t' := s1.toks) fun b o e => Heap.get?_push_of_some _ e, turn_list a _, ⟨_, Heap.get?_push_size _ rfl, rfl, rfl⟩, fun b hb => ?_, q⟩
    have e : b = s1.heap.objs.size := by simpa using hb
    subst e
    exact I1.fpOk (Nat.le_refl _) (I1.hok.fresh (Nat.le_refl _))
  · subst e
    cases r1
    obtain ⟨its, rv, p, hz⟩ := I1.tuple hq
    refine wpAny_pyIter_tuple (show s1.heap.IsTuple a its.toArray from p) ?_
    refine ⟨s1.heap.objs.size, [s1.heap.objs.size], _, _, H1, rfl, I1.kept (t' := s1.toks) fun b o e => Heap.get?_push_of_some _ e, turn_tuple a _, ⟨_, Heap.get?_push_size _ rfl, rfl, rfl⟩, fun b hb => ?_, q⟩
    have e : b = s1.heap.objs.size := by simpa using hb
    subst e
    exact I1.fpOk (Nat.le_refl _) (I1.hok.fresh (Nat.le_refl _))

/-- what a walk yields: these data, one by one -/
structure WalkOK (z : Cz) (F : Hp) (J : It) (ds : List D) : Prop where
  go : ∀ i H' F', Ex F F' → Ex F' H' → i < ds.length → J.go i H'
  yld : ∀ i H' F' x H2 d, Ex F F' → Ex F' H' → ds[i]? = some d → J.yld i H' x H2 → H2 = H' ∧ Rep z.K F' d x
  stop : ∀ i H' F', Ex F F' → Ex F' H' → ds.length ≤ i → J.stop i H'
abbrev DI := Ro → (List D → Ro → Prop) → Prop
structure PDI (X : Cx) (b : Bool) (tg e : Expr) (ti : TI) (di : DI) : Prop where
  pi : PI X tg e ti
  dv : ∀ z, At X b z → ∀ F H ρ σ (Q : List D → Ro → Prop) (R : It → Hp → Prop), Sta z F H ρ σ → di ρ Q → (∀ J H' F' ρ' ds, Ex F F' → Sta z F' H' ρ' σ → WalkOK z F' J ds → Q ds ρ' → R J H') → ti σ H R
section
variable {X : Cx} {b : Bool} {tg e e1 e2 : Expr} {te : TE} {de : DE} {pos p : Pos} {ta : TA} {da : DA}
def dSeqI (b : Bool) (t : DE) : DI := fun ρ Q => t ρ fun r ρ1 => fx b ρ1 r fun d ρ2 => ob d.items fun ds => Q ds ρ2
theorem pdi_seq (h : PD X b e te de) : PDI X b tg e (iSeq X.K te) (dSeqI b de) := by
  refine ⟨pi_seq h.pe, fun z hz F H ρ σ Q R S q k => ?_⟩
  refine h.dv z hz F H ρ σ _ _ S q fun v H1 F1 ρ1 r e1 S1 o1 q1 => ?_
  obtain ⟨F2, ρ2, d, e2, S2, o2, q2⟩ := S1.fix hz.2 o1 q1
  obtain ⟨ds, hd, q2⟩ := ob_iff.mp q2
  have hL : ∀ a vs, (∀ H', Ex F2 H' → SqL X.K H' a vs) → RepL z.K F2 ds vs → WalkOK z F2 (Itl X.K a) ds := fun a vs hs hr => by
    refine ⟨fun i H' F' e' e'' hi => ?_, fun i H' F' x H2 d e' e'' hi y => ?_, fun i H' F' e' e'' hi => ?_⟩
    · obtain ⟨v, hv, _⟩ := hr.get (List.getElem?_eq_getElem hi)
      exact ⟨vs, v, hs H' (e'.trans e''), hv⟩
    · obtain ⟨y1, y2⟩ := y
      obtain ⟨v, hv, rv⟩ := hr.get hi
      have := y2 vs (hs H' (e'.trans e''))
      rw [hv] at this
      rw [← Option.some.inj this]
      exact ⟨y1, Rep.mono e' rv⟩
    · exact ⟨vs, hs H' (e'.trans e''), by rw [← hr.length]; exact hi⟩
  have hT : ∀ a vs, (∀ H', Ex F2 H' → SqT X.K H' a vs) → RepL z.K F2 ds vs → WalkOK z F2 (Itt X.K a) ds := fun a vs hs hr => by
    refine ⟨fun i H' F' e' e'' hi => ?_, fun i H' F' x H2 d e' e'' hi y => ?_, fun i H' F' e' e'' hi => ?_⟩
    · obtain ⟨v, hv, _⟩ := hr.get (List.getElem?_eq_getElem hi)
      exact ⟨vs, v, hs H' (e'.trans e''), hv⟩
    · obtain ⟨y1, y2⟩ := y
      obtain ⟨v, hv, rv⟩ := hr.get hi
      have := y2 vs (hs H' (e'.trans e''))
      rw [hv] at this
      rw [← Option.some.inj this]
      exact ⟨y1, Rep.mono e' rv⟩
    · exact ⟨vs, hs H' (e'.trans e''), by rw [← hr.length]; exact hi⟩
  cases d with
  | tup ds' =>
    cases hd
    obtain ⟨a, vs, rfl, h3, h4⟩ := rep_tup.mp o2
    rw [hz.1] at h3
    exact .inr ⟨a, rfl, ⟨vs, ex_t S2.fh h3⟩, k _ H1 F2 ρ2 ds (e1.trans e2) S2 (hT a vs (fun H' e => ex_t e h3) h4) q2⟩
  | lst ds' =>
    cases hd
    obtain ⟨a, vs, rfl, h3, h4⟩ := rep_lst.mp o2
    exact .inl ⟨a, rfl, ⟨vs, sq_of (S2.fh _ _ h3)⟩, k _ H1 F2 ρ2 ds (e1.trans e2) S2 (hL a vs (fun H' e => sq_of (e _ _ h3)) h4) q2⟩
  | rl ds' =>
    cases hd
    obtain ⟨a, vs, rfl, h3, h4⟩ := rep_rl.mp o2
    rw [hz.1] at h3
    exact .inl ⟨a, rfl, ⟨vs, ex_l S2.fh h3⟩, k _ H1 F2 ρ2 ds (e1.trans e2) S2 (hL a vs (fun H' e => ex_l e h3) h4) q2⟩
  | _ => cases hd
/-- the ints lo, lo + 1, .. -/
def rng (lo : Int) (n : Nat) : List D := (List.range n).map fun (i : Nat) => D.int (lo + (i : Int))
theorem rng_len (lo : Int) (n : Nat) : (rng lo n).length = n := by unfold rng; rw [List.length_map, List.length_range]
theorem rng_get {lo : Int} {n i : Nat} {d : D} (h : (rng lo n)[i]? = some d) : d = .int (lo + i) := by
  unfold rng at h
  rw [List.getElem?_map] at h
  by_cases hi : i < n
  · rw [List.getElem?_range hi] at h
    exact (Option.some.inj h).symm
  · rw [List.getElem?_eq_none (by simpa using hi)] at h
    cases h
theorem walk_rng {z : Cz} {F : Hp} {lo : Int} {n : Nat} : WalkOK z F (Itr lo n) (rng lo n) := by
  refine ⟨fun i H' F' e' e'' hi => ?_, fun i H' F' x H2 d e' e'' hi y => ?_, fun i H' F' e' e'' hi => ?_⟩
  · rw [rng_len] at hi; exact hi
  · obtain ⟨y1, y2⟩ := y
    rw [rng_get hi, y2]
    exact ⟨y1, rep_int.mpr rfl⟩
  · rw [rng_len] at hi; exact hi
def int1 : List D → Option Int
  | [.int n] => some n
  | _ => none
def int2 : List D → Option (Int × Int)
  | [.int m, .int n] => some (m, n)
  | _ => none
theorem int1_ok {ds : List D} {n : Int} (h : int1 ds = some n) : ds = [.int n] := by
  unfold int1 at h
  split at h
  · cases h; rfl
  · cases h
theorem int2_ok {ds : List D} {q : Int × Int} (h : int2 ds = some q) : ds = [.int q.1, .int q.2] := by
  unfold int2 at h
  split at h
  · cases h; rfl
  · cases h
def dRng1 (u : DA) : DI := fun ρ Q => u ρ fun ds ρ1 => ob (int1 ds) fun n => (n ≤ 100000 ∧ -100000 ≤ n) ∧ Q (rng 0 n.toNat) ρ1
def dRng2 (u : DA) : DI := fun ρ Q => u ρ fun ds ρ1 => ob (int2 ds) fun q => ((q.2 ≤ 100000 ∧ -100000 ≤ q.2) ∧ (q.1 ≤ 100000 ∧ -100000 ≤ q.1)) ∧ Q (rng q.1 (q.2 - q.1).toNat) ρ1
theorem pdi_range1 (hm : X.mg "range" = none) (h : PDA X b [e] ta da) (hg : Gl X "range" := by rfl) (hs : starEach [e] X.env = [(false, eval e X.env)] := by rfl) : PDI X b tg (.Call (.Name "range" p) [e] [] pos) (iRng1 ta) (dRng1 da) := by
  refine ⟨pi_range1 hg hm h.pa hs, fun z hz F H ρ σ Q R S q k => ?_⟩
  refine h.dv z hz F H ρ σ _ _ S q fun vs H1 F1 ρ1 ds e1 S1 o1 q1 => ?_
  obtain ⟨n, hn, ⟨h1, h2⟩, q2⟩ := ob_iff.mp q1
  have en := int1_ok hn
  subst en
  obtain ⟨v, rfl, r⟩ := rep1 o1
  rw [rep_int.mp r]
  exact ⟨n, rfl, by omega, by omega, k _ H1 F1 ρ1 _ e1 S1 walk_rng q2⟩
theorem pdi_range2 (hm : X.mg "range" = none) (h : PDA X b [e1, e2] ta da) (hg : Gl X "range" := by rfl) (hs : starEach [e1, e2] X.env = [(false, eval e1 X.env), (false, eval e2 X.env)] := by rfl) (hs2 : starEach [e2] X.env = [(false, eval e2 X.env)] := by rfl) : PDI X b tg (.Call (.Name "range" p) [e1, e2] [] pos) (iRng2 ta) (dRng2 da) := by
  refine ⟨pi_range2 hg hm h.pa hs hs2, fun z hz F H ρ σ Q R S q k => ?_⟩
  refine h.dv z hz F H ρ σ _ _ S q fun vs H1 F1 ρ1 ds e1 S1 o1 q1 => ?_
  obtain ⟨⟨m, n⟩, hn, ⟨⟨h1, h2⟩, h3, h4⟩, q2⟩ := ob_iff.mp q1
  have en := int2_ok hn
  subst en
  simp only at h1 h2 h3 h4 q2 o1
  obtain ⟨v, w, rfl, r, r'⟩ := rep2 o1
  rw [rep_int.mp r, rep_int.mp r']
  exact ⟨m, n, rfl, ⟨by omega, by omega, by omega, by omega⟩, k _ H1 F1 ρ1 _ e1 S1 walk_rng q2⟩

/-! ### for -/
variable {ts : TS} {t : DS} {g : TG} {dg : DG} {ti : TI} {di : DI} {body : List Stmt}
def forD (g : DG) (t : DS) (D : DEnds) : List DL.D → Ro → Prop
  | [], ρ => D.nx ρ
  | d :: ds, ρ => g d ρ fun ρ' => t { D with nx := forD g t D ds, ct := forD g t D ds, bk := D.nx } ρ'
def dFor (i : DI) (g : DG) (t : DS) : DS := fun D ρ => i ρ fun ds ρ1 => forD g t D ds ρ1
theorem dvs_for {z : Cz} (hi : ∀ F H ρ σ (Q : List D → Ro → Prop) (R : It → Hp → Prop), Sta z F H ρ σ → di ρ Q → (∀ J H' F' ρ' ds, Ex F F' → Sta z F' H' ρ' σ → WalkOK z F' J ds → Q ds ρ' → R J H') → ti σ H R)
    (hg : DVG z g dg) (ht : DVS z ts t) : DVS z (tFor ti g ts) (dFor di dg t) := by
  intro D E F H ρ σ S q L
  refine hi F H ρ σ _ _ S q fun J H1 F1 ρ1 ds e1 S1 w q1 => ?_
  refine ⟨fun i m σ' H' => m = ds.length - i ∧ i ≤ ds.length ∧ ∃ F' ρ', Ex F1 F' ∧ Sta z F' H' ρ' σ' ∧ forD dg t D (ds.drop i) ρ', ⟨ds.length, by simp, Nat.zero_le _, F1, ρ1, Ex.refl F1, S1, q1⟩, ?_⟩
  rintro i m σ' H' ⟨rfl, hi, F', ρ', e', S', q'⟩
  by_cases hlt : i < ds.length
  · refine .inr ⟨w.go i H' F' e' S'.fh hlt, fun σ2 H2 => ∃ F2 ρ2, Ex F1 F2 ∧ Sta z F2 H2 ρ2 σ2 ∧ forD dg t D (ds.drop (i + 1)) ρ2, fun σ2 H2 h2 => ⟨ds.length - (i + 1), by omega, rfl, hlt, h2⟩, fun x H2 y => ?_⟩
    obtain ⟨e2, r⟩ := w.yld i H' F' x H2 _ e' S'.fh (List.getElem?_eq_getElem hlt) y
    subst e2
    rw [List.drop_eq_getElem_cons hlt] at q'
    refine hg F' H2 ρ' σ' _ x _ _ S' r q' fun F3 H3 ρ3 σ3 e3 S3 q3 => ?_
    refine ht _ _ F3 H3 ρ3 σ3 S3 q3 ⟨fun F4 H4 ρ4 σ4 e4 S4 q4 => ⟨F4, ρ4, (e'.trans e3).trans e4, S4, q4⟩, fun v F4 H4 ρ4 σ4 r e4 S4 o4 q4 => ?_, fun F4 H4 ρ4 σ4 e4 S4 q4 => ?_, fun F4 H4 ρ4 σ4 e4 S4 q4 => ⟨F4, ρ4, (e'.trans e3).trans e4, S4, q4⟩⟩
    · exact L.rt v F4 H4 ρ4 σ4 r (((e1.trans e').trans e3).trans e4) S4 o4 q4
    · exact L.nx F4 H4 ρ4 σ4 (((e1.trans e').trans e3).trans e4) S4 q4
  · have e2 : i = ds.length := by omega
    subst e2
    rw [List.drop_length] at q'
    exact .inl ⟨w.stop _ H' F' e' S'.fh (Nat.le_refl _), L.nx F' H' ρ' σ' (e1.trans e') S' q'⟩
theorem pds_for (hp : PassesOwn (model X.prog X.w) X.A X.env X.xe) (hc : X.calm = true) (hi : PDI X b tg e ti di) (hg : PDG X b tg g dg) (ht : PDSs X b body ts t) (hs : ∀ x, foldedSetIterable e X.env x = pure x := by intro _; rfl) : PDS X b (.For tg e body [] pos) (tFor ti g ts) (dFor di dg t) :=
  ⟨ps_for hp hc hi.pi hg.pg ht.ps hs, fun z hz => dvs_for (hi.dv z hz) (hg.dv z hz) (ht.dv z hz)⟩
/-- the invariant of a loop -/
theorem forD_inv {D : DEnds} (I : Nat → Ro → Prop) : ∀ (ds : List DL.D) (i : Nat) (ρ : Ro), I i ρ → (∀ j d ρ, ds[j]? = some d → I (i + j) ρ → dg d ρ fun ρ' => ∀ (nx : Ro → Prop), (∀ ρ2, I (i + j + 1) ρ2 → nx ρ2) → t { D with nx := nx, ct := nx, bk := D.nx } ρ') → (∀ ρ, I (i + ds.length) ρ → D.nx ρ) →
    (∀ d ρ (P Q : Ro → Prop), (∀ ρ', P ρ' → Q ρ') → dg d ρ P → dg d ρ Q) → forD dg t D ds ρ
  | [], i, ρ, h, _, hd, _ => hd ρ h
  | d :: ds, i, ρ, h, hs, hd, mono => by
    show dg d ρ fun ρ' => t { D with nx := forD dg t D ds, ct := forD dg t D ds, bk := D.nx } ρ'
    refine mono d ρ _ _ (fun ρ' h' => ?_) (hs 0 d ρ rfl h)
    refine h' _ fun ρ2 h2 => forD_inv I ds (i + 1) ρ2 h2 (fun j d ρ hj hI => ?_) (fun ρ hI => hd ρ (by rw [List.length_cons]; rw [show i + (ds.length + 1) = i + 1 + ds.length by omega]; exact hI)) mono
    have := hs (j + 1) d ρ (by simpa using hj) (by rw [show i + (j + 1) = i + 1 + j by omega]; exact hI)
    rw [show i + (j + 1) + 1 = i + 1 + j + 1 by omega] at this
    exact this

/-! ### while -/
variable {tt : TT} {dt : DT}
def whD (c : DT) (t : DS) (D : DEnds) : Nat → Ro → Prop
  | 0, _ => False
  | n + 1, ρ => c ρ fun b ρ1 => if b = true then t { D with nx := whD c t D n, ct := whD c t D n, bk := D.nx } ρ1 else D.nx ρ1
def dWhile (c : DT) (t : DS) : DS := fun D ρ => ∃ n, whD c t D n ρ
theorem dvs_while {z : Cz} (hc : DVT z tt dt) (ht : DVS z ts t) : DVS z (tWhile tt ts) (dWhile dt t) := by
  intro D E F H ρ σ S q L
  obtain ⟨n, q⟩ := q
  refine ⟨fun m σ' H' => ∃ F' ρ', Ex F F' ∧ Sta z F' H' ρ' σ' ∧ whD dt t D m ρ', ⟨n, F, ρ, Ex.refl F, S, q⟩, ?_⟩
  rintro m σ' H' ⟨F', ρ', e', S', q'⟩
  cases m with
  | zero => exact q'.elim
  | succ m =>
    refine hc F' H' ρ' σ' _ _ S' q' fun c H1 F1 ρ1 e1 S1 q1 => ?_
    cases c with
    | true =>
      refine ⟨fun σ2 H2 => ∃ F2 ρ2, Ex F F2 ∧ Sta z F2 H2 ρ2 σ2 ∧ whD dt t D m ρ2, fun σ2 H2 h2 => ⟨m, Nat.lt_succ_self m, h2⟩, ?_⟩
      refine ht _ _ F1 H1 ρ1 σ' S1 q1 ⟨fun F4 H4 ρ4 σ4 e4 S4 q4 => ⟨F4, ρ4, (e'.trans e1).trans e4, S4, q4⟩, fun v F4 H4 ρ4 σ4 r e4 S4 o4 q4 => ?_, fun F4 H4 ρ4 σ4 e4 S4 q4 => ?_, fun F4 H4 ρ4 σ4 e4 S4 q4 => ⟨F4, ρ4, (e'.trans e1).trans e4, S4, q4⟩⟩
      · exact L.rt v F4 H4 ρ4 σ4 r ((e'.trans e1).trans e4) S4 o4 q4
      · exact L.nx F4 H4 ρ4 σ4 ((e'.trans e1).trans e4) S4 q4
    | false => exact L.nx F1 H1 ρ1 σ' (e'.trans e1) S1 q1
theorem pds_while {c : Expr} (hp : PassesOwn (model X.prog X.w) X.A X.env X.xe) (hc : PDT X b c tt dt) (ht : PDSs X b body ts t) : PDS X b (.While c body [] pos) (tWhile tt ts) (dWhile dt t) :=
  ⟨ps_while hp hc.pt ht.ps, fun z hz => dvs_while (hc.dv z hz) (ht.dv z hz)⟩

/-! ### a def by its contract -/
/-- what is handed back: an owned slot is handed back owned -/
def back (b : Bool) (ρ : Ro) (r : Res) (c : Res) : Prop := match r with
  | .fr d => c = .fr d
  | .ow o => c = .ow o
  | .sl j => match ρ[j]? with
    | some (.fr d) => c = .fr d
    | some (.ow o) => obB (okB b j) (c = .ow o)
    | _ => False
theorem back_ok {z : Cz} {F H : Hp} {ρ : Ro} {σ : L2.St} {v : V} {r c : Res} (hb : z.io.isSome = b) (S : Sta z F H ρ σ) (o : ResOK z F H ρ σ v r) (h : back b ρ r c) : ResR z.K F z.H0 H v c := by
  cases r with
  | fr d => cases h; exact o
  | ow w =>
    cases h
    obtain ⟨a, e1, h1, h2, h3, h4⟩ := o
    exact ⟨a, e1, h1, h2, h3⟩
  | sl j =>
    have o1 : σ[j]? = some (some v) := o.1
    cases k : ρ[j]? with
    | none => simp only [back, k] at h
    | some s =>
      obtain ⟨w, hw, q⟩ := S.sl j s k
      rw [o1] at hw
      cases s with
      | un => simp only [back, k] at h
      | fr d =>
        simp only [back, k] at h
        subst h
        obtain ⟨x, e1, r⟩ := q
        rw [← Option.some.inj hw] at e1
        cases e1
        exact r
      | ow w =>
        simp only [back, k] at h
        obtain ⟨hj, h⟩ := obB_iff.mp h
        subst h
        obtain ⟨a, e1, r⟩ := q
        rw [← Option.some.inj hw] at e1
        cases e1
        obtain ⟨f1, f2⟩ := S.rf j w a k o1
        refine ⟨a, rfl, r, f1, ?_⟩
        rcases f2 with f2 | f2
        · rcases okS hb hj with e2 | e2
          · rw [e2] at f2; cases f2
          · obtain ⟨o', g1, g2⟩ := S.ioz a f2
            exact (S.ap 0 j o' w a (Ne.symm e2) g1 k g2 o1).elim
        · exact f2
def args0 (n : Nat) (ds : List D) : Ro := ds.map Sl.fr ++ List.replicate (n - ds.length) Sl.un
theorem sta0 {K : PySem.W.Frag} {F H : Hp} {ds : List D} {vs : List V} {n : Nat} (ex : Ex F H) (r : RepL K F ds vs) : Sta ⟨K, F, H, none⟩ F H (args0 n ds) (vs.map some ++ List.replicate (n - vs.length) none) := by
  refine ⟨ex, Ex.refl F, fun a o h => .inl h, fun a o h _ => h, fun a h => h, ?_, fun i s h => ?_, fun i j o o' a ne h => ?_, fun i o a h => ?_, fun a h => nomatch h⟩
  · unfold args0
    rw [List.length_append, List.length_append, List.length_map, List.length_map, List.length_replicate, List.length_replicate, r.length]
  · unfold args0 at h
    by_cases hi : i < ds.length
    · rw [List.getElem?_append_left (by simpa using hi), List.getElem?_map, List.getElem?_eq_getElem hi] at h
      obtain ⟨v, hv, rv⟩ := r.get (List.getElem?_eq_getElem hi)
      refine ⟨some v, ?_, ?_⟩
      · rw [List.getElem?_append_left (by rw [List.length_map, ← r.length]; exact hi), List.getElem?_map, hv]
        rfl
      · rw [← Option.some.inj h]
        exact ⟨v, rfl, rv⟩
    · rw [List.getElem?_append_right (by simpa using hi), List.length_map] at h
      rw [List.getElem?_replicate] at h
      split at h
      · rename_i hlt
        cases h
        refine ⟨none, ?_, trivial⟩
        rw [List.getElem?_append_right (by rw [List.length_map, ← r.length]; omega), List.length_map, ← r.length, List.getElem?_replicate, if_pos hlt]
      · cases h
  · unfold args0 at h
    by_cases hi : i < ds.length
    · rw [List.getElem?_append_left (by simpa using hi), List.getElem?_map, List.getElem?_eq_getElem hi] at h
      cases h
    · rw [List.getElem?_append_right (by simpa using hi), List.getElem?_replicate] at h
      split at h <;> cases h
  · unfold args0 at h
    by_cases hi : i < ds.length
    · rw [List.getElem?_append_left (by simpa using hi), List.getElem?_map, List.getElem?_eq_getElem hi] at h
      cases h
    · rw [List.getElem?_append_right (by simpa using hi), List.getElem?_replicate] at h
      split at h <;> cases h
end
section
variable {P : Program} {w : World} {K : PySem.W.Frag} {mg : Str → Option Value} {base : Heap} {x qual : Str} {params : Arguments} {body : List Stmt} {scope : Scope} {dvs : List V} {f : Addr} {fd : FuncData} {N ps : List Str} {k : Nat}
/-- the context of a def's body -/
abbrev cx (P : Program) (w : World) (K : PySem.W.Frag) (mg : Str → Option Value) (base : Heap) (N : List Str) (qual : Str) (scope : Scope) (f : Addr) (cdv : Value) (A : Around) (outer : List Env) (s : Shared) (H : Hp) (E : XK) : Cx := (cxOf CX0 P w K mg base N qual scope f cdv A outer s H E).nox
/-- the ends of a def -/
abbrev dEnds (r : Res) : DEnds := { nx := fun _ => r = .fr .non, rt := fun r' ρ => back false ρ r' r }
theorem ct_ok {c : Ct} (F : FunD K x qual params body scope dvs [] f fd) (S : FnScope N ps scope) (hl : ∀ a, (c.args a).length = ps.length)
    (hb : ∀ (cdv : Value) (A : Around) (outer : List Env) (s : Shared) (H : Hp) (E : XK), Room k (A.deeper (envOfC qual scope s.heap.objs.size f cdv)) →
      ∃ ts t, PDSs (cx P w K mg base N qual scope f cdv A outer s H E) false body ts t ∧ ∀ a, c.pre a → t (dEnds (c.res a)) (args0 N.length (c.args a))) :
    FnOk P w K mg base CX0 (k + 1) f fd ps (c.sp K) := by
  refine F.ok S (fun vs H Q E h => ?_) fun cdv A outer s H vs Q E hr h => ?_
  · obtain ⟨F, a, _, r, _⟩ := h
    rw [← r.length, hl a]
  · obtain ⟨F, a, ex, r, hp, kk⟩ := h
    obtain ⟨ts, t, hd, ht⟩ := hb cdv A outer s H E hr
    refine ⟨ts, hd.ps.nox, ?_⟩
    have S0 := sta0 (K := K) (n := N.length) ex r
    refine hd.dv ⟨K, F, H, none⟩ ⟨rfl, rfl, Ex.refl _⟩ _ _ F H _ _ S0 (ht a hp) ⟨fun F' H' ρ' σ' e S' q => ?_, fun v F' H' ρ' σ' r' e S' o q => ?_, fun _ _ _ _ _ _ q => q.elim, fun _ _ _ _ _ _ q => q.elim⟩
    · refine kk .non H' F' (fun a o h => S'.kp a o h (fun z => nomatch z)) S'.f0 S'.fh (fun a o h => S'.nw a o h) ?_
      have q : c.res a = .fr .non := q
      rw [q]
      exact (rep_non (K := K) (F := F')).mpr rfl
    · exact kk v H' F' (fun a o h => S'.kp a o h (fun z => nomatch z)) S'.f0 S'.fh (fun a o h => S'.nw a o h) (back_ok (b := false) rfl S' o q)
/-- a def that changes what its first argument owns -/
abbrev dEndsW (r : Res) (o : Ow) : DEnds := { nx := fun ρ => r = .fr .non ∧ ρ[0]? = some (.ow o), rt := fun r' ρ => back true ρ r' r ∧ ρ[0]? = some (.ow o) }
def argsW (n : Nat) (o : Ow) (ds : List D) : Ro := Sl.ow o :: (ds.map Sl.fr ++ List.replicate (n - 1 - ds.length) Sl.un)
theorem staW {F H : Hp} {ds : List D} {vs : List V} {n : Nat} {p : Addr} {o : Ow} (ex : Ex F H) (r : RepL K F ds vs) (fp : F p = none) (q : OwAt K F H p o) :
    Sta ⟨K, F, H, some p⟩ F H (argsW n o ds) ((V.ref p :: vs).map some ++ List.replicate (n - (V.ref p :: vs).length) none) := by
  have S0 := sta0 (K := K) (n := n - 1) ex r
  have e0 : (V.ref p :: vs).map some ++ List.replicate (n - (V.ref p :: vs).length) none = some (V.ref p) :: (vs.map some ++ List.replicate (n - 1 - vs.length) none) := by
    rw [List.map_cons, List.cons_append, List.length_cons, show n - (vs.length + 1) = n - 1 - vs.length by omega]
  rw [e0]
  have no : ∀ i o', (args0 (n - 1) ds)[i]? ≠ some (Sl.ow o') := fun i o' h => by
    unfold args0 at h
    by_cases hi : i < ds.length
    · rw [List.getElem?_append_left (by simpa using hi), List.getElem?_map, List.getElem?_eq_getElem hi] at h
      cases h
    · rw [List.getElem?_append_right (by simpa using hi), List.getElem?_replicate] at h
      split at h <;> cases h
  refine ⟨ex, Ex.refl F, fun a o h => .inl h, fun a o h _ => h, fun a h => h, by have := S0.len; simpa [argsW, args0] using this, fun i s h => ?_, fun i j o1 o2 a ne h1 h2 => ?_, fun i o1 a h h' => ?_, fun a h => ⟨o, rfl, by cases h; rfl⟩⟩
  · cases i with
    | zero =>
      have e : Sl.ow o = s := Option.some.inj h
      subst e
      exact ⟨some (.ref p), rfl, p, rfl, q⟩
    | succ i => exact S0.sl i s h
  · cases i with
    | zero => cases j with
      | zero => exact (ne rfl).elim
      | succ j => exact (no j o2 h2).elim
    | succ i => exact (no i o1 h1).elim
  · cases i with
    | zero =>
      have e : p = a := by cases h'; rfl
      subst e
      exact ⟨fp, .inl rfl⟩
    | succ i => exact (no i o1 h).elim
theorem cw_ok {c : Cw} (F : FunD K x qual params body scope dvs [] f fd) (S : FnScope N ps scope) (hl : ∀ a, (c.args a).length + 1 = ps.length)
    (hb : ∀ (cdv : Value) (A : Around) (outer : List Env) (s : Shared) (H : Hp) (E : XK), Room k (A.deeper (envOfC qual scope s.heap.objs.size f cdv)) →
      ∃ ts t, PDSs (cx P w K mg base N qual scope f cdv A outer s H E) true body ts t ∧ ∀ a, c.pre a → t (dEndsW (c.res a) (c.out a)) (argsW N.length (c.own a) (c.args a))) :
    FnOk P w K mg base CX0 (k + 1) f fd ps (c.sp K) := by
  refine F.ok S (fun vs H Q E h => ?_) fun cdv A outer s H vs Q E hr h => ?_
  · obtain ⟨F, a, p, vs', rfl, _, _, _, r, _⟩ := h
    rw [List.length_cons, ← r.length, hl a]
  · obtain ⟨F, a, p, vs', rfl, ex, fp, q0, r, hp, kk⟩ := h
    obtain ⟨ts, t, hd, ht⟩ := hb cdv A outer s H E hr
    refine ⟨ts, hd.ps.nox, ?_⟩
    have S0 := staW (K := K) (n := N.length) ex r fp q0
    have fin : ∀ {F' H' ρ' σ'}, Sta ⟨K, F, H, some p⟩ F' H' ρ' σ' → ρ'[0]? = some (.ow (c.out a)) → F' p = none ∧ OwAt K F' H' p (c.out a) := fun {F' H' ρ' σ'} S' h0 => by
      obtain ⟨o', g1, g2⟩ := S'.ioz p rfl
      obtain ⟨w, hw, p', e1, q⟩ := S'.sl 0 _ h0
      rw [g2] at hw
      rw [← Option.some.inj hw] at e1
      have e2 : p = p' := by cases e1; rfl
      subst e2
      exact ⟨(S'.rf 0 _ p h0 g2).1, q⟩
    refine hd.dv ⟨K, F, H, some p⟩ ⟨rfl, rfl, Ex.refl _⟩ _ _ F H _ _ S0 (ht a hp) ⟨fun F' H' ρ' σ' e S' q => ?_, fun v F' H' ρ' σ' r' e S' o q => ?_, fun _ _ _ _ _ _ q => q.elim, fun _ _ _ _ _ _ q => q.elim⟩
    · obtain ⟨q1, q2⟩ := q
      obtain ⟨f1, f2⟩ := fin S' q2
      refine kk .non H' F' (fun b o nb h => S'.kp b o h (fun z => nb (by cases z; rfl))) S'.f0 S'.fh (fun a o h => S'.nw a o h) f1 f2 ?_
      rw [q1]
      exact (rep_non (K := K) (F := F')).mpr rfl
    · obtain ⟨q1, q2⟩ := q
      obtain ⟨f1, f2⟩ := fin S' q2
      exact kk v H' F' (fun b o nb h => S'.kp b o h (fun z => nb (by cases z; rfl))) S'.f0 S'.fh (fun a o h => S'.nw a o h) f1 f2 (back_ok (b := true) rfl S' o q1)
end
end DL
end
section
set_option Elab.async false
set_option linter.all false
set_option maxRecDepth 100000
set_option maxHeartbeats 4000000
/-! DL8: comprehensions, walked texts. -/
namespace DL
open PySem PySem.Spec PyProof.Rows L2 Evl

/-- the slots of a block's own names forgotten -/
def wipeD (ρ : Ro) : List Nat → Ro
  | [] => ρ
  | v :: vs => (wipeD ρ vs).set v .un
section
variable {z : Cz} {F F' H H' : Hp} {ρ ρ' : Ro} {σ σ' : L2.St} {own : List Nat}
theorem okAll {b : Bool} (hb : z.io.isSome = b) (h : own.all (okB b) = true) : ∀ j ∈ own, z.io = none ∨ j ≠ 0 := fun j hj => okS hb (List.all_eq_true.mp h j hj)
theorem Sta.wipe (S : Sta z F H ρ σ) : ∀ {own : List Nat}, (∀ j ∈ own, z.io = none ∨ j ≠ 0) → Sta z F H (wipeD ρ own) σ
  | [], _ => S
  | v :: vs, h => (S.wipe (own := vs) fun j hj => h j (List.mem_cons_of_mem _ hj)).drop v (h v List.mem_cons_self)
theorem wipeD_un : ∀ {own : List Nat} {i : Nat} {s : Sl}, i ∈ own → (wipeD ρ own)[i]? = some s → s = .un
  | v :: vs, i, s, h, e => by
    unfold wipeD at e
    by_cases k : v = i
    · subst k
      by_cases hl : v < (wipeD ρ vs).length
      · rw [List.getElem?_set_self hl] at e; exact (Option.some.inj e).symm
      · rw [List.getElem?_eq_none (by rw [List.length_set]; omega)] at e; cases e
    · rw [List.getElem?_set_ne k] at e
      rcases List.mem_cons.mp h with h | h
      · exact (k h.symm).elim
      · exact wipeD_un h e
/-- only the block's own slots differ -/
theorem Sta.turn (S : Sta z F H (wipeD ρ own) σ) (e : L2.wipe σ' own = L2.wipe σ own) : Sta z F H (wipeD ρ own) σ' := by
  have el : σ'.length = σ.length := by rw [← wipe_length σ' own, e, wipe_length]
  have eo : ∀ i, i ∉ own → σ'[i]? = σ[i]? := fun i hi => by rw [← wipe_out hi, e, wipe_out hi]
  have ow : ∀ {i : Nat} {o : Ow}, (wipeD ρ own)[i]? = some (.ow o) → i ∉ own := fun h hi => nomatch (wipeD_un hi h)
  refine ⟨S.fh, S.f0, S.nw, S.kp, S.al, S.len.trans el.symm, fun i s q => ?_, fun i j o o' a ne q1 q2 => ?_, fun i o a q => ?_, fun a q => ?_⟩
  · by_cases hi : i ∈ own
    · have := wipeD_un hi q
      subst this
      have hl : i < σ'.length := by rw [el, ← S.len]; exact (List.getElem?_eq_some_iff.mp q).1
      exact ⟨_, List.getElem?_eq_getElem hl, trivial⟩
    · rw [eo i hi]; exact S.sl i s q
  · rw [eo i (ow q1), eo j (ow q2)]; exact S.ap i j o o' a ne q1 q2
  · rw [eo i (ow q)]; exact S.rf i o a q
  · obtain ⟨o, g1, g2⟩ := S.ioz a q
    exact ⟨o, g1, by rw [eo 0 (ow g1)]; exact g2⟩
theorem wipe_wipe {σ : L2.St} : ∀ {own : List Nat}, L2.wipe (L2.wipe σ own) own = L2.wipe σ own := fun {own} => by
  apply List.ext_getElem?
  intro i
  by_cases hi : i ∈ own
  · have h : ∀ (τ : L2.St) (vs : List Nat), i ∈ vs → (L2.wipe τ vs)[i]? = if i < τ.length then some none else none := by
      intro τ vs
      induction vs with
      | nil => exact fun h => nomatch h
      | cons v vs ih =>
        intro h
        unfold L2.wipe
        by_cases k : v = i
        · subst k
          by_cases hl : v < τ.length
          · rw [List.getElem?_set_self (by rw [wipe_length]; exact hl), if_pos hl]
          · rw [List.getElem?_eq_none (by rw [List.length_set, wipe_length]; omega), if_neg hl]
        · rw [List.getElem?_set_ne k]
          rcases List.mem_cons.mp h with h | h
          · exact (k h.symm).elim
          · exact ih h
    rw [h _ _ hi, h _ _ hi, wipe_length]
  · rw [wipe_out hi]
theorem wipe_set {σ : L2.St} {x : V} {j : Nat} (hj : j ∈ own) : L2.wipe (σ.set j (some x)) own = L2.wipe σ own := by
  apply List.ext_getElem?
  intro i
  by_cases hi : i ∈ own
  · have h : ∀ (τ : L2.St) (vs : List Nat), i ∈ vs → (L2.wipe τ vs)[i]? = if i < τ.length then some none else none := by
      intro τ vs
      induction vs with
      | nil => exact fun h => nomatch h
      | cons v vs ih =>
        intro h
        unfold L2.wipe
        by_cases k : v = i
        · subst k
          by_cases hl : v < τ.length
          · rw [List.getElem?_set_self (by rw [wipe_length]; exact hl), if_pos hl]
          · rw [List.getElem?_eq_none (by rw [List.length_set, wipe_length]; omega), if_neg hl]
        · rw [List.getElem?_set_ne k]
          rcases List.mem_cons.mp h with h | h
          · exact (k h.symm).elim
          · exact ih h
    rw [h _ _ hi, h _ _ hi, List.length_set]
  · rw [wipe_out hi, wipe_out hi, List.getElem?_set_ne (fun e => hi (by rw [← e]; exact hj))]
/-- a list of the frame's own, at L, is kept while something is run -/
def grd (z : Cz) (L : Addr) (xs : List V) : Cz := { z with H0 := upd z.H0 L (.lst xs) }
structure Gu (z : Cz) (F H : Hp) (ρ : Ro) (σ : L2.St) (L : Addr) (xs : List V) : Prop where
  at_ : H L = some (.lst xs)
  f : F L = none
  h0 : z.H0 L = none
  io : z.io ≠ some L
  far : ∀ (i : Nat) (o' : Ow), ρ[i]? = some (.ow o') → σ[i]? ≠ some (some (.ref L))
theorem Sta.guard {L : Addr} {xs : List V} (S : Sta z F H ρ σ) (g : Gu z F H ρ σ L xs) : Sta (grd z L xs) F H ρ σ := by
  refine ⟨S.fh, S.f0, fun a o h => ?_, fun a o h n => ?_, fun a h => ?_, S.len, S.sl, S.ap, fun i o a h h' => ?_, S.ioz⟩
  · rcases S.nw a o h with k | k | k
    · exact .inl k
    · refine .inr (.inl ?_)
      show upd z.H0 L _ a = none
      rw [upd_ne (fun e => by rw [e, g.f] at h; cases h)]
      exact k
    · exact .inr (.inr k)
  · have h : upd z.H0 L (.lst xs) a = some o := h
    by_cases e : a = L
    · subst e
      rw [upd_same] at h
      rw [← h]
      exact g.at_
    · rw [upd_ne e] at h
      exact S.kp a o h n
  · have h : upd z.H0 L (.lst xs) a ≠ none := h
    by_cases e : a = L
    · subst e
      rw [g.at_]
      exact fun z => nomatch z
    · rw [upd_ne e] at h
      exact S.al a h
  · obtain ⟨h1, h2⟩ := S.rf i o a h h'
    refine ⟨h1, ?_⟩
    rcases h2 with h2 | h2
    · exact .inl h2
    · right
      show upd z.H0 L _ a = none
      rw [upd_ne (fun e => by subst e; exact g.far i o h h')]
      exact h2
theorem Sta.unguard {L : Addr} {xs : List V} {o : HO} {q : Ow} (S : Sta (grd z L xs) F H ρ σ) (hf : z.F0 L = none) (h0 : z.H0 L = none) (io : z.io ≠ some L) (no : ∀ x, o ≠ .own x) : H L = some (.lst xs) ∧ Sta z F (upd H L o) ρ σ ∧ F L = none ∧ ∀ (i : Nat) (o' : Ow), ρ[i]? = some (.ow o') → σ[i]? ≠ some (some (.ref L)) := by
  have e1 : H L = some (.lst xs) := S.kp L _ (by show upd z.H0 L (.lst xs) L = _; rw [upd_same]) io
  have e2 : F L = none := by
    cases k : F L with
    | none => rfl
    | some u =>
      rcases S.nw L u k with h | h | ⟨x, h⟩
      · have h : z.F0 L = some u := h
        rw [hf] at h; cases h
      · have h : upd z.H0 L (.lst xs) L = none := h
        rw [upd_same] at h; cases h
      · subst h
        have := S.fh _ _ k
        rw [e1] at this
        cases this
  have e3 : ∀ (i : Nat) (o' : Ow), ρ[i]? = some (.ow o') → σ[i]? ≠ some (some (.ref L)) := fun i o' h h' => by
    obtain ⟨_, h2⟩ := S.rf i o' L h h'
    rcases h2 with h2 | h2
    · exact io h2
    · have h2 : upd z.H0 L (.lst xs) L = none := h2
      rw [upd_same] at h2; cases h2
  refine ⟨e1, ⟨fun a u h => ?_, S.f0, fun a u h => ?_, fun a u h n => ?_, fun a h => ?_, S.len, fun i s h => ?_, S.ap, fun i o a h h' => ?_, S.ioz⟩, e2, e3⟩
  · rw [upd_ne (fun e => by rw [e, e2] at h; cases h)]; exact S.fh a u h
  · rcases S.nw a u h with k | k | k
    · exact .inl k
    · refine .inr (.inl ?_)
      have k : upd z.H0 L (.lst xs) a = none := k
      by_cases e : a = L
      · subst e; exact h0
      · rw [upd_ne e] at k; exact k
    · exact .inr (.inr k)
  · have na : a ≠ L := fun e => by rw [e, h0] at h; cases h
    rw [upd_ne na]
    refine S.kp a u ?_ n
    show upd z.H0 L _ a = _
    rw [upd_ne na]
    exact h
  · have na : a ≠ L := fun e => by rw [e] at h; exact h h0
    rw [upd_ne na]
    refine S.al a ?_
    show upd z.H0 L _ a ≠ _
    rw [upd_ne na]
    exact h
  · obtain ⟨v, hv, k⟩ := S.sl i s h
    refine ⟨v, hv, ?_⟩
    cases s with
    | un => trivial
    | fr d => exact k
    | ow w =>
      obtain ⟨a, ea, r⟩ := k
      subst ea
      have na : a ≠ L := fun e => by subst e; exact e3 i w h hv
      refine ⟨a, rfl, ?_⟩
      cases w with
      | lst ds => obtain ⟨vs, g1, g2⟩ := r; exact ⟨vs, by rw [upd_ne na]; exact g1, g2⟩
      | obj C ns ds =>
        obtain ⟨dx, us, g1, g2, g3, g4⟩ := r
        exact ⟨dx, us, by rw [upd_ne na]; exact g1, by rw [upd_ne (fun e => by rw [e, e1] at g2; cases g2)]; exact g2, g3, g4⟩
  · obtain ⟨h1, h2⟩ := S.rf i o a h h'
    refine ⟨h1, ?_⟩
    rcases h2 with h2 | h2
    · exact .inl h2
    · right
      have h2 : upd z.H0 L (.lst xs) a = none := h2
      by_cases e : a = L
      · subst e; exact h0
      · rw [upd_ne e] at h2; exact h2
end

/-! ### tests of a comprehension -/
structure PDTs (X : Cx) (b : Bool) (ifs : List Expr) (te : TT) (t : DT) : Prop where
  pt : PTs X ifs te
  dv : ∀ z, At X b z → DVT z te t
theorem pdts_nil {X : Cx} {b : Bool} : PDTs X b [] tYes (fun ρ Q => Q true ρ) := ⟨pts_nil, fun z hz F H ρ σ Q R S q k => k true H F ρ (Ex.refl F) S q⟩
theorem pdts_one {X : Cx} {b : Bool} {c : Expr} {te : TT} {t : DT} (h : PDT X b c te t) : PDTs X b [c] te t := ⟨pts_one h.pt, h.dv⟩

/-! ### [elt for name in iter if ..] -/
def lcD (b : Bool) (vs : List Nat) (j : Nat) (c : DT) (t : DE) : List D → List D → Ro → (List D → Ro → Prop) → Prop
  | [], acc, ρ, Q => Q acc ρ
  | d :: ds, acc, ρ, Q => c (ρ.set j (.fr d)) fun k ρ1 => if k = true then t ρ1 fun r ρ2 => fx b ρ2 r fun e ρ3 => acc.length < 100000 ∧ lcD b vs j c t ds (acc ++ [e]) (wipeD ρ3 vs) Q else lcD b vs j c t ds acc (wipeD ρ1 vs) Q
def dLc (b : Bool) (vs : List Nat) (j : Nat) (i : DI) (c : DT) (t : DE) : DE := fun ρ Q => i ρ fun ds ρ1 => lcD b vs j c t ds [] (wipeD ρ1 vs) fun acc ρ2 => Q (.ow (.lst acc)) ρ2
section
variable {X : Cx} {b : Bool} {te : TE} {t : DE} {tt : TT} {c : DT} {wi : TI} {di : DI} {vs : List Nat} {j : Nat}
theorem dv_lc {z : Cz} (hb : z.io.isSome = b) (hi : ∀ F H ρ σ (Q : List D → Ro → Prop) (R : It → Hp → Prop), Sta z F H ρ σ → di ρ Q → (∀ J H' F' ρ' ds, Ex F F' → Sta z F' H' ρ' σ → WalkOK z F' J ds → Q ds ρ' → R J H') → wi σ H R)
    (hc : ∀ z', At X b z' → DVT z' tt c) (ht : ∀ z', At X b z' → DV z' te t) (hz : At X b z) (hj : j ∈ vs) (hv : vs.all (okB b) = true) : DV z (tLc wi (gName j) tt te vs) (dLc b vs j di c t) := by
  intro F H ρ σ Q R S q k
  have hio := okAll hb hv
  refine hi F H ρ σ _ _ S q fun J H1 F1 ρ1 ds e1 S1 w q1 => ?_
  intro L hL
  have h0 : z.H0 L = none := S1.h0 hL
  have hf : z.F0 L = none := by
    cases kk : z.F0 L with
    | none => rfl
    | some u => rw [S1.fh _ _ (S1.f0 _ _ kk)] at hL; cases hL
  have io : z.io ≠ some L := fun e => by
    obtain ⟨o, g1, g2⟩ := S1.ioz L e
    exact S1.far hL 0 o g1 g2
  refine ⟨fun i m H' => m = ds.length - i ∧ i ≤ ds.length ∧ ∃ F' ρ' acc xs, Ex F1 F' ∧ Sta z F' H' (wipeD ρ' vs) σ ∧ Gu z F' H' (wipeD ρ' vs) σ L xs ∧ RepL z.K F' acc xs ∧ lcD b vs j c t (ds.drop i) acc (wipeD ρ' vs) fun acc ρ2 => Q (.ow (.lst acc)) ρ2,
    ⟨ds.length, by simp, Nat.zero_le _, F1, ρ1, [], [], Ex.refl F1, (S1.newH hL _).wipe hio, ⟨upd_same, S1.fz hL, h0, io, ((S1.wipe hio).far hL)⟩, repL_nil.mpr rfl, q1⟩, ?_⟩
  rintro i m H' ⟨rfl, hil, F', ρ', acc, xs, e', S', g, ra, q'⟩
  by_cases hlt : i < ds.length
  · refine .inr ⟨w.go i H' F' e' S'.fh hlt, fun H2 => ∃ F2 ρ2 acc xs, Ex F1 F2 ∧ Sta z F2 H2 (wipeD ρ2 vs) σ ∧ Gu z F2 H2 (wipeD ρ2 vs) σ L xs ∧ RepL z.K F2 acc xs ∧ lcD b vs j c t (ds.drop (i + 1)) acc (wipeD ρ2 vs) fun acc ρ2 => Q (.ow (.lst acc)) ρ2,
      fun H2 h2 => ⟨ds.length - (i + 1), by omega, rfl, hlt, h2⟩, fun x H2 y => ?_⟩
    obtain ⟨e2, r⟩ := w.yld i H' F' x H2 _ e' S'.fh (List.getElem?_eq_getElem hlt) y
    subst e2
    rw [List.drop_eq_getElem_cons hlt] at q'
    have S2 := (S'.turn (σ' := L2.wipe σ vs) wipe_wipe)
    have g2 : Gu z F' H2 (wipeD ρ' vs) (L2.wipe σ vs) L xs := ⟨g.at_, g.f, g.h0, g.io, fun i o h h' => by
      have hn : i ∉ vs := fun hi => nomatch (wipeD_un hi h)
      rw [wipe_out hn] at h'
      exact g.far i o h h'⟩
    have S3 := S2.guard g2
    have S4 := S3.putF (j := j) r (hio j hj)
    show L2.wipe ((L2.wipe σ vs).set j (some x)) vs = L2.wipe σ vs ∧ _
    refine ⟨by rw [wipe_set hj, wipe_wipe], ?_⟩
    have hz' : At X b (grd z L xs) := ⟨hz.1, hz.2, hz.3.trans (Ex.new h0)⟩
    have back : ∀ {σ2 : L2.St} {F5 H5 : Hp} {ρ5 : Ro} {o : HO}, L2.wipe σ2 vs = L2.wipe σ vs → Sta (grd z L xs) F5 H5 ρ5 σ2 → (∀ x, o ≠ .own x) → H5 L = some (.lst xs) ∧ Sta z F5 (upd H5 L o) (wipeD ρ5 vs) σ ∧ F5 L = none ∧ ∀ (i : Nat) (o' : Ow), (wipeD ρ5 vs)[i]? = some (.ow o') → σ[i]? ≠ some (some (.ref L)) := fun {σ2 F5 H5 ρ5 o} ew S5 no => by
      have S6 : Sta (grd z L xs) F5 H5 (wipeD ρ5 vs) σ := (S5.wipe hio).turn ew.symm
      exact S6.unguard (q := .lst []) hf h0 io no
    have ew : L2.wipe ((L2.wipe σ vs).set j (some x)) vs = L2.wipe σ vs := by rw [wipe_set hj, wipe_wipe]
    refine hc _ hz' F' H2 _ _ _ _ S4 q' fun kk H3 F3 ρ3 e3 S5 q3 => ?_
    cases kk with
    | false =>
      show ∃ F2 ρ2 acc xs, _
      obtain ⟨b1, b2, b3, b4⟩ := back (o := .lst xs) ew S5 (fun x e => nomatch e)
      have e5 : upd H3 L (.lst xs) = H3 := by
        funext a
        by_cases e : a = L
        · subst e; rw [upd_same, b1]
        · rw [upd_ne e]
      rw [e5] at b2
      exact ⟨F3, ρ3, acc, xs, e'.trans e3, b2, ⟨b1, b3, h0, io, b4⟩, RepL.mono e3 ra, q3⟩
    | true =>
      refine ht _ hz' F3 H3 ρ3 _ _ _ S5 q3 fun v H4 F4 ρ4 r e4 S6 o4 q4 => ?_
      obtain ⟨F5, ρ5, d, e5, S7, o5, hl, q5⟩ := S6.fix (by exact hb) o4 q4
      obtain ⟨b1, b2, b3, b4⟩ := back (o := .lst (xs ++ [v])) ew S7 (fun x e => nomatch e)
      refine ⟨xs, b1, sz_lt (by rw [← ra.length]; exact hl), F5, ρ5, acc ++ [d], xs ++ [v], ((e'.trans e3).trans e4).trans e5, b2, ⟨upd_same, b3, h0, io, b4⟩, (RepL.mono ((e3.trans e4).trans e5) ra).append (RepL.cons o5 (repL_nil.mpr rfl)), q5⟩
  · have e2 : i = ds.length := by omega
    subst e2
    rw [List.drop_length] at q'
    exact .inl ⟨w.stop _ H' F' e' S'.fh (Nat.le_refl _), k (.ref L) H' F' _ (.ow (.lst acc)) (e1.trans e') S' ⟨L, rfl, ⟨xs, g.at_, ra⟩, g.f, h0, g.far⟩ q'⟩

theorem pd_lc {elt iter : Expr} {x : Str} {ifs : List Expr} {scope : Scope} {p pos : Pos} {te : Shared → Hp → Addr → List (Str × Addr) → List Addr → TE} {t : Shared → Hp → Addr → List (Str × Addr) → List Addr → DE} {tt : Shared → Hp → Addr → List (Str × Addr) → List Addr → TT} {c : Shared → Hp → Addr → List (Str × Addr) → List Addr → DT} (own : List (Str × Nat)) (j : Nat) (hc : X.calm = true) (hN : X.N.Nodup) (hi : PDI X b (.Name x p) iter wi di)
    (hs : ∀ (s : Shared) (H : Hp) (C : Addr) (cl : List (Str × Addr)) (fp : List Addr), PDTs (X.blk s H scope (compEnvC scope cl C X.env) fp) b ifs (tt s H C cl fp) (c s H C cl fp))
    (he : ∀ (s : Shared) (H : Hp) (C : Addr) (cl : List (Str × Addr)) (fp : List Addr), PD (X.blk s H scope (compEnvC scope cl C X.env) fp) b elt (te s H C cl fp) (t s H C cl fp))
    (hg : ∀ (s : Shared) (H : Hp) (C : Addr) (cl : List (Str × Addr)) (fp : List Addr), PG (X.blk s H scope (compEnvC scope cl C X.env) fp) (.Name x p) (gName j))
    (ok : blkC X.N X.env.scope scope own = true) (hj : j ∈ own.map (·.2) := by simp) (hv : (own.map (·.2)).all (okB b) = true := by rfl) (hf : ∀ x, foldedSetIterable iter X.env x = pure x := by intro _; rfl)
    (q1 : ∀ s H C cl fp, te s H C cl fp = te X.s_0 X.H_0 0 [] [] := by intros; rfl) (q2 : ∀ s H C cl fp, t s H C cl fp = t X.s_0 X.H_0 0 [] [] := by intros; rfl) (q3 : ∀ s H C cl fp, tt s H C cl fp = tt X.s_0 X.H_0 0 [] [] := by intros; rfl) (q4 : ∀ s H C cl fp, c s H C cl fp = c X.s_0 X.H_0 0 [] [] := by intros; rfl) :
    PD X b (.ListComp elt [⟨.Name x p, iter, ifs, 0⟩] scope pos) (tLc wi (gName j) (tt X.s_0 X.H_0 0 [] []) (te X.s_0 X.H_0 0 [] []) (own.map (·.2))) (dLc b (own.map (·.2)) j di (c X.s_0 X.H_0 0 [] []) (t X.s_0 X.H_0 0 [] [])) :=
  ⟨pe_lc hc hN hi.pi (blkOk_by ok) hg (fun s H C cl fp => by have := (hs s H C cl fp).pt; rw [q3] at this; exact this) (fun s H C cl fp => by have := (he s H C cl fp).pe; rw [q1] at this; exact this) hf,
    fun z hz => dv_lc (X := X) hz.2 (hi.dv z hz) (fun z' hz' => (hs X.s_0 X.H_0 0 [] []).dv z' ⟨hz'.1, hz'.2, hz'.3⟩) (fun z' hz' => (he X.s_0 X.H_0 0 [] []).dv z' ⟨hz'.1, hz'.2, hz'.3⟩) hz hj hv⟩
theorem pds_setLc {elt iter : Expr} {x y : Str} {ifs : List Expr} {scope : Scope} {p py pos spos : Pos} {te : Shared → Hp → Addr → List (Str × Addr) → List Addr → TE} {t : Shared → Hp → Addr → List (Str × Addr) → List Addr → DE} {tt : Shared → Hp → Addr → List (Str × Addr) → List Addr → TT} {c : Shared → Hp → Addr → List (Str × Addr) → List Addr → DT} (i : Nat) (own : List (Str × Nat)) (j : Nat) (hc : X.calm = true) (hN : X.N.Nodup) (hi : PDI X b (.Name x p) iter wi di)
    (hs : ∀ (s : Shared) (H : Hp) (C : Addr) (cl : List (Str × Addr)) (fp : List Addr), PDTs (X.blk s H scope (compEnvC scope cl C X.env) fp) b ifs (tt s H C cl fp) (c s H C cl fp))
    (he : ∀ (s : Shared) (H : Hp) (C : Addr) (cl : List (Str × Addr)) (fp : List Addr), PD (X.blk s H scope (compEnvC scope cl C X.env) fp) b elt (te s H C cl fp) (t s H C cl fp))
    (hg : ∀ (s : Shared) (H : Hp) (C : Addr) (cl : List (Str × Addr)) (fp : List Addr), PG (X.blk s H scope (compEnvC scope cl C X.env) fp) (.Name x p) (gName j))
    (ok : blkC X.N X.env.scope scope own = true) (hy : X.N[i]? = some y := by rfl) (hyl : X.env.scope.names.lookup y = some .local := by rfl)
    (hk : X.env.scope.kind = .function := by rfl) (hl : (py.line == pos.line) = true := by rfl) (hll : spos.line = pos.line := by rfl) (ha : (scope.names.any fun (n, k) => n == y && (k == .local || k == .cell)) = false := by rfl)
    (hj : j ∈ own.map (·.2) := by simp) (hv : (own.map (·.2)).all (okB b) = true := by rfl) (hf : ∀ x, foldedSetIterable iter X.env x = pure x := by intro _; rfl)
    (q1 : ∀ s H C cl fp, te s H C cl fp = te X.s_0 X.H_0 0 [] [] := by intros; rfl) (q2 : ∀ s H C cl fp, t s H C cl fp = t X.s_0 X.H_0 0 [] [] := by intros; rfl) (q3 : ∀ s H C cl fp, tt s H C cl fp = tt X.s_0 X.H_0 0 [] [] := by intros; rfl) (q4 : ∀ s H C cl fp, c s H C cl fp = c X.s_0 X.H_0 0 [] [] := by intros; rfl) :
    PDS X b (.Assign [.Name y py] (.ListComp elt [⟨.Name x p, iter, ifs, 0⟩] scope pos) spos) (tAsg (tLc wi (gName j) (tt X.s_0 X.H_0 0 [] []) (te X.s_0 X.H_0 0 [] []) (own.map (·.2))) (gName i)) (dSet b i (dLc b (own.map (·.2)) j di (c X.s_0 X.H_0 0 [] []) (t X.s_0 X.H_0 0 [] []))) :=
  ⟨ps_setLc hc hN hy hyl (sw_true hk hyl hl ha) hi.pi (blkOk_by ok) hg (fun s H C cl fp => by have := (hs s H C cl fp).pt; rw [q3] at this; exact this) (fun s H C cl fp => by have := (he s H C cl fp).pe; rw [q1] at this; exact this) hf,
    fun z hz => dvs_set hz.2 (dv_lc (X := X) hz.2 (hi.dv z hz) (fun z' hz' => (hs X.s_0 X.H_0 0 [] []).dv z' ⟨hz'.1, hz'.2, hz'.3⟩) (fun z' hz' => (he X.s_0 X.H_0 0 [] []).dv z' ⟨hz'.1, hz'.2, hz'.3⟩) hz hj hv)⟩

/-! ### a text, walked -/
def chars (x : Str) : List DL.D := x.cps.toList.map fun c => .str ⟨#[c]⟩
def dStrI (t : DE) : DI := fun ρ Q => t ρ fun r ρ1 => ob (vw ρ1 r) fun d => match d with
  | .str x => Q (chars x) ρ1
  | _ => False
theorem pdi_str {tg e : Expr} (h : PD X b e te t) : PDI X b tg e (iStr te) (dStrI t) := by
  refine ⟨pi_str h.pe, fun z hz F H ρ σ Q R S q k => ?_⟩
  refine h.dv z hz F H ρ σ _ _ S q fun v H1 F1 ρ1 r e1 S1 o1 q1 => ?_
  obtain ⟨F2, e2, S2, h2⟩ := S1.hold o1
  obtain ⟨d, v1, q2⟩ := ob_iff.mp q1
  have := S2.see h2 v1
  cases d with
  | str x =>
    have hv := hStr this
    subst hv
    refine ⟨x, rfl, k _ H1 F2 ρ1 (chars x) (e1.trans e2) S2 ⟨fun i H' F' _ _ hi => ?_, fun i H' F' y H2 d _ _ hi hy => ?_, fun i H' F' _ _ hi => ?_⟩ q2⟩
    · have : (chars x).length = x.cps.size := by simp [chars]
      show i < x.cps.size
      omega
    · obtain ⟨h1, c, h3, h4⟩ := hy
      subst h4
      refine ⟨h1, ?_⟩
      have h5 : (chars x)[i]? = some (.str ⟨#[c]⟩) := by
        unfold chars
        rw [List.getElem?_map, Array.getElem?_toList, h3]
        rfl
      rw [h5] at hi
      rw [← Option.some.inj hi]
      exact rep_str.mpr rfl
    · have : (chars x).length = x.cps.size := by simp [chars]
      show x.cps.size ≤ i
      omega
  | _ => exact q2.elim
end
end DL
end
section
set_option Elab.async false
set_option linter.all false
set_option maxRecDepth 100000
set_option maxHeartbeats 4000000
/-! DL9: an own class's + and *, == and !=; a class's constants and staticmethods; isinstance. -/
namespace PySem.W
open PySem
section
variable {prog : Program} {w : World} {A : Around} {E : Value → Shared → Prop} {s : Shared} {K : Frag} {x C L f : Addr} {h₀ : Heap} {m : Str → Option Value} {ox : Obj} {od : Option Obj} {name : Str}
theorem ifBound_S {M : Model} {T : String} {id : String} {args : List Value} {Q : Option Value → Shared → Prop} (X : K.In s.heap) (I : InstAt s.heap x ox C od) (hs : findIn K (.ref C) name = some (some (.builtin id))) (S : Slot T name id)
    (h : wpAny M A (call (.builtin id) (.ref x :: args)) (fun v => Q (some v)) E s) : wpAny M A (callSpecialIfBound? (.ref x) name args) Q E s := by
  simp only [callSpecialIfBound?, bindSpecialIfBound?]
  refine wpAny_holding (wpAny_bind (wpAny_bind (wpAny_bind (I.type.here ((looks_findIn X hs).here ?_)))))
  simp only [S.bind]
  refine wpAny_bind (wpAny_askSetting (wpAny_ite ?_))
  have fin : wpAny M A (call (.builtin id) ([.ref x] ++ args) >>= fun v => pure (some v)) Q E s := wpAny_bind (wpAny_mono h (fun v s' h' => wpAny_pure h') fun _ _ h' => h')
  split
  · exact wpAny_bind (wpAny_pure (wpAny_pure fin))
  · exact wpAny_tryCatch (wpAny_bind (wpAny_pure (wpAny_pure fin)))
theorem check_slot_K {M : Model} {id owner n : String} {rest : List Value} {Q : Unit → Shared → Prop} (X : K.In s.heap) (I : InstAt s.heap x ox C od) (hk : builtinKind id = some .slot) (hs : splitId id = some (owner, n))
    (ha : argsOk id ⟨.ref x :: rest, []⟩) (hob : subIn K (.ref C) (.type owner) = some true) (hq : Q () s) : wpAny M A (checkBuiltinCall id ⟨.ref x :: rest, []⟩) Q E s := by
  simp only [checkBuiltinCall, hk, hs]
  refine wpAny_bind ?_
  unfold isInstance
  refine wpAny_bind (I.type.here ((looks_subIn X hob).here ?_))
  simp only [Bool.not_true, Bool.false_eq_true, if_false]
  first
  | exact wpAny_pure (by
      cases hsig : Manifest.signature? id with
      | none => exact wpAny_pure hq
      | some sig =>
        simp only [argsOk, hsig] at ha
        have h2 : Bind.checkArgs id sig ⟨.ref x :: rest, []⟩ = pure () := ha
        show wpAny M A (Bind.checkArgs id sig ⟨.ref x :: rest, []⟩) Q E _
        rw [h2]; exact wpAny_pure hq)
  | (cases hsig : Manifest.signature? id with
      | none => exact wpAny_pure hq
      | some sig =>
        simp only [argsOk, hsig] at ha
        have h2 : Bind.checkArgs id sig ⟨.ref x :: rest, []⟩ = pure () := ha
        show wpAny M A (Bind.checkArgs id sig ⟨.ref x :: rest, []⟩) Q E _
        rw [h2]; exact wpAny_pure hq)
theorem ne_K {y : Addr} {oy : Obj} {oe : Option Obj} {Q : Value → Shared → Prop} (hu : A.units + 1 < cLine) (X : K.In s.heap) (I : InstAt s.heap x ox C od) (J : InstAt s.heap y oy C oe)
    (hn : findIn K (.ref C) "__ne__" = some (some (.builtin "object.__ne__"))) (he : findIn K (.ref C) "__eq__" = some (some (.ref f))) (hf : isFn K (.ref f) = true) (hob : subIn K (.ref C) (.type "object") = some true)
    (h : wpAny (model prog w) A.in1 (call (.ref f) [.ref x, .ref y]) (fun v s' => ∃ b, v = .bool b ∧ Q (.bool (!b)) s') E s) : wpAny (model prog w) A (richCompare .NotEq (.ref x) (.ref y)) Q E s := by
  have one : wpAny (model prog w) A (tryCompare (.ref x) "__ne__" (.ref y)) (fun r s' => ∃ v, r = some v ∧ Q v s') E s := by
    unfold tryCompare
    refine wpAny_bind (ifBound_S X I hn F.cmp_object.ne (wpAny_call (codeAny_call_builtin F.cmp_object.ne.plain F.cmpEntry_ne (check_slot_K X I F.cmpKind_ne F.cmpSplit_ne (F.cmpArgs_ne _ _) hob ?_))))
    unfold Builtin.«object.__ne__»
    repeat (first
      | with_reducible refine wpAny_cRoomFor (A := A.in1) hu ?_
      | (refine wpAny_bind (m := callSpecialIfBound? (.ref x) (Str.ofString "__eq__") [.ref y])
          (ifBound_K X I he hf (wpAny_mono h (fun r s' hr => by
            obtain ⟨b, rfl, hq⟩ := hr
            repeat (first | (exact wpAny_pure ⟨_, rfl, hq⟩) | exact ⟨_, rfl, hq⟩ | exact wpAny_pure hq | (refine wpAny_bind (m := truthy (.bool _)) (wpAny_truthy_bool ?_)) | wp_step)) fun _ _ e => e)))
      | wp_step)
  unfold richCompare
  simp only [oneThing_ref]
  refine wpAny_holding ?_
  refine wpAny_bind (wpAny_cRoomFor (Nat.lt_of_succ_lt hu) ?_)
  rw [cmpInfo_NotEq]
  dsimp only
  refine wpAny_bind (I.type.here (wpAny_bind (J.type.here ?_)))
  rw [show (Value.ref C != Value.ref C) = false from by simp]
  simp only [Bool.false_eq_true, if_false]
  refine wpAny_bind (wpAny_pure ?_)
  simp only [Bool.false_eq_true, if_false]
  refine wpAny_bind (wpAny_mono one (fun v s' hv => ?_) fun _ _ e => e)
  obtain ⟨b, rfl, hq⟩ := hv
  exact wpAny_pure hq
end
end PySem.W
namespace DL
open PySem PySem.Spec PyProof.Rows L2 Evl
/-- a value that a comparison hands on -/
def Nni (v : V) : Prop := (∃ p, v = .ref p) ∨ ∃ c, v = .bl c
def nniR : Res → Prop
  | .ow _ => True
  | .fr (.bl _) => True
  | .fr (.obj _ _ _) => True
  | .fr (.tup _) => True
  | _ => False
def rOwn (C : Addr) (sp : Sp) : R2 := fun x y H Q => ∃ a b dx dy fs gs, x = .ref a ∧ y = .ref b ∧ H a = some (.ins C dx fs) ∧ H b = some (.ins C dy gs) ∧ sp [x, y] H (fun v H' => Nni v ∧ Q v H') E0
def rOwnNe (C : Addr) (sp : Sp) : R2 := fun x y H Q => ∃ a b dx dy fs gs, x = .ref a ∧ y = .ref b ∧ H a = some (.ins C dx fs) ∧ H b = some (.ins C dy gs) ∧ sp [x, y] H (fun v H' => ∃ c, v = .bl c ∧ Q (.bl (!c)) H') E0
section
variable {X : Cx} {C f : Addr} {fd : FuncData} {ps : List Str} {sp : Sp} {k : Nat}
theorem cmpBack {pins : List (Addr × Obj)} {σ : L2.St} {Q : VK} {u : Value} {s' : Shared} (h : EP X pins σ (fun v H' => Nni v ∧ Q v H') u s') : PySem.W.CmpBack (EP X pins σ Q) u s' := by
  obtain ⟨v, H', I', r, n, q⟩ := h
  rcases n with ⟨p, e⟩ | ⟨c, e⟩
  · subst e
    obtain rfl : u = Value.ref p := r
    exact ⟨.ref p, H', I', rfl, q⟩
  · subst e
    obtain rfl : u = Value.bool c := r
    exact ⟨.bl c, H', I', rfl, q⟩
theorem op_own {op : Operator} (F : FnOk X.prog X.w X.K X.mg X.base CX0 k f fd ps sp) (hr : Room k X.A) (hs : PySem.W.findIn X.K (.ref C) (PySem.dunder op.info.2) = some (some (.ref f))) (hf : PySem.W.isFn X.K (.ref f) = true) (hb : Binds X.K fd ps [])
    (hc : PySem.W.selfFirst X.K C = true) : OpR X (binaryOp op) (rOwn C sp) := by
  intro pins s σ H x y v u Q I rx ry h
  obtain ⟨a, b, dx, dy, fs, gs, rfl, rfl, ha, hb', h⟩ := h
  cases rx
  cases ry
  obtain ⟨mA, J, _⟩ := ins_get I.hok ha
  obtain ⟨mB, J', _⟩ := ins_get I.hok hb'
  obtain ⟨od, J, _⟩ := J.look
  obtain ⟨od', J', _⟩ := J'.look
  obtain ⟨m, hF⟩ := I.fr
  exact PySem.W.binop_K hF I.ok.mod.kin J J'.type hc hs hf (wpAny_mono (run_fn (us := [.ref a, .ref b]) (vs := [.ref a, .ref b]) F hr hb .nil pass0 I (.cons rfl (.cons rfl .nil)) h) (fun u s' z => cmpBack z) fun _ _ z => z)
theorem op_ownEq (F : FnOk X.prog X.w X.K X.mg X.base CX0 k f fd ps sp) (hr : Room k X.A) (hs : PySem.W.findIn X.K (.ref C) "__eq__" = some (some (.ref f))) (hf : PySem.W.isFn X.K (.ref f) = true) (hb : Binds X.K fd ps []) : OpR X (compareOp .Eq) (rOwn C sp) := by
  intro pins s σ H x y v u Q I rx ry h
  obtain ⟨a, b, dx, dy, fs, gs, rfl, rfl, ha, hb', h⟩ := h
  cases rx
  cases ry
  obtain ⟨mA, J, _⟩ := ins_get I.hok ha
  obtain ⟨mB, J', _⟩ := ins_get I.hok hb'
  obtain ⟨od, J, _⟩ := J.look
  obtain ⟨od', J', _⟩ := J'.look
  obtain ⟨m, hF⟩ := I.fr
  show wpAny (model X.prog X.w) X.A (richCompare .Eq (.ref a) (.ref b)) (EP X pins σ Q) X.xe s
  exact PySem.W.cmp_K (op := .Eq) (tb := .ref C) hr.units0 hF I.ok.mod.kin J J'.type (by simp [PySem.W.notFirst]) hs hf (wpAny_mono (run_fn (us := [.ref a, .ref b]) (vs := [.ref a, .ref b]) F hr hb .nil pass0 I (.cons rfl (.cons rfl .nil)) h) (fun u s' z => cmpBack z) fun _ _ z => z)
theorem op_ownNe (F : FnOk X.prog X.w X.K X.mg X.base CX0 k f fd ps sp) (hr : Room (k + 1) X.A) (hs : PySem.W.findIn X.K (.ref C) "__eq__" = some (some (.ref f))) (hf : PySem.W.isFn X.K (.ref f) = true) (hb : Binds X.K fd ps [])
    (hn : PySem.W.findIn X.K (.ref C) "__ne__" = some (some (.builtin "object.__ne__"))) (hob : PySem.W.subIn X.K (.ref C) (.type "object") = some true) : OpR X (compareOp .NotEq) (rOwnNe C sp) := by
  intro pins s σ H x y v u Q I rx ry h
  obtain ⟨a, b, dx, dy, fs, gs, rfl, rfl, ha, hb', h⟩ := h
  cases rx
  cases ry
  obtain ⟨mA, J, _⟩ := ins_get I.hok ha
  obtain ⟨mB, J', _⟩ := ins_get I.hok hb'
  obtain ⟨od, J, _⟩ := J.look
  obtain ⟨od', J', _⟩ := J'.look
  show wpAny (model X.prog X.w) X.A (richCompare .NotEq (.ref a) (.ref b)) (EP X pins σ Q) X.xe s
  refine PySem.W.ne_K (by have := hr.units; omega) I.kIn J J' hn hs hf hob ?_
  have sb : Sub X k X.A.in1 := ⟨hr.in1, rfl⟩
  have e0 : Env0 X.prog X.w X.K X.mg X.base X.A.in1 X.stack s H := by
    have e := I.env0
    exact ⟨by rw [sb.fr]; exact e.frames, e.mod, e.bs, e.bsz, e.funs, e.frf, e.hok, e.bare⟩
  have hl := F.len _ _ _ _ h
  have r2 : Vals [V.ref a, V.ref b] [Value.ref a, Value.ref b] := .cons rfl (.cons rfl .nil)
  refine wpAny_call (codeAny_mono (F.run X.A.in1 X.stack s H ⟨[.ref a, .ref b], []⟩ [.ref a, .ref b] [.ref a, .ref b] _ E0 sb.room e0 (by
    have := hb s [.ref a, .ref b] I.kIn (by simpa using hl)
    simpa using this) r2 h) fun r s' hq => ?_)
  cases r with
  | error e => exact (show Passes CX0 X E0 from pass0) pins σ H s e s' I hq
  | ok fl =>
    cases fl with
    | ret w =>
      obtain ⟨z, H', I', rz, c, ez, q⟩ := I.after hq
      subst ez
      cases rz
      exact ⟨c, rfl, .bl (!c), H', I', rfl, q⟩
    | next => exact False.elim hq
    | brk => exact False.elim hq
    | cont => exact False.elim hq
end

section
variable {X : Cx} {b : Bool} {e1 e2 : Expr} {ta tb : TE} {da db : DE} {pos : Pos} {C : Addr} {c : Ct} {k : Nat}
def isO (C : Addr) (d : D) : Prop := ∃ ns ds, d = .obj C ns ds
def dOwn (b : Bool) (C : Addr) (c : Ct) (ta tb : DE) : DE := fun ρ Q => ta ρ fun ra ρ1 => fx b ρ1 ra fun d ρ2 => tb ρ2 fun rb ρ3 => fx b ρ3 rb fun e ρ4 => (isO C d ∧ isO C e) ∧ ∃ a : c.α, [d, e] = c.args a ∧ c.pre a ∧ nniR (c.res a) ∧ Q (c.res a) ρ4
def dOwnNe (b : Bool) (C : Addr) (c : Ct) (ta tb : DE) : DE := fun ρ Q => ta ρ fun ra ρ1 => fx b ρ1 ra fun d ρ2 => tb ρ2 fun rb ρ3 => fx b ρ3 rb fun e ρ4 => (isO C d ∧ isO C e) ∧ ∃ a : c.α, [d, e] = c.args a ∧ c.pre a ∧ ∃ q, c.res a = .fr (.bl q) ∧ Q (.fr (.bl (!q))) ρ4
theorem nni_ok {K : PySem.W.Frag} {F' H H' : Hp} {v : V} {r : Res} (h : ResR K F' H H' v r) (n : nniR r) : Nni v := by
  cases r with
  | fr d =>
    cases d with
    | bl q => exact .inr ⟨q, rep_bl.mp (show Rep K F' (.bl q) v from h)⟩
    | obj C ns ds =>
      obtain ⟨a, dx, us, e, _⟩ := rep_obj.mp (show Rep K F' (.obj C ns ds) v from h)
      exact .inl ⟨a, e⟩
    | tup ds =>
      obtain ⟨a, us, e, _⟩ := rep_tup.mp (show Rep K F' (.tup ds) v from h)
      exact .inl ⟨a, e⟩
    | _ => exact n.elim
  | ow o =>
    obtain ⟨a, e, _⟩ := h
    exact .inl ⟨a, e⟩
  | sl j => exact n.elim
theorem isO_at {K : PySem.W.Frag} {F H : Hp} {d : D} {v : V} (ex : Ex F H) (h : isO C d) (r : Rep K F d v) : ∃ a dx fs, v = .ref a ∧ H a = some (.ins C dx fs) := by
  obtain ⟨ns, ds, rfl⟩ := h
  obtain ⟨a, dx, us, e, h1, _⟩ := rep_obj.mp r
  exact ⟨a, dx, _, e, ex _ _ h1⟩
theorem dv_own {z : Cz} (hb : z.io.isSome = b) (h1 : DV z ta da) (h2 : DV z tb db) : DV z (tOp (rOwn C (c.sp z.K)) ta tb) (dOwn b C c da db) := by
  intro F H ρ σ Q R S q k
  refine h1 F H ρ σ _ _ S q fun x H1 F1 ρ1 ra e1 S1 o1 q1 => ?_
  obtain ⟨F2, ρ2, d, e2, S2, o2, q2⟩ := S1.fix hb o1 q1
  refine h2 F2 H1 ρ2 σ _ _ S2 q2 fun y H3 F3 ρ3 rb e3 S3 o3 q3 => ?_
  obtain ⟨F4, ρ4, e, e4, S4, o4, ⟨w1, w2⟩, a, ea, hp, hn, q4⟩ := S3.fix hb o3 q3
  have o2' := Rep.mono (e3.trans e4) o2
  obtain ⟨p1, d1, f1, v1, g1⟩ := isO_at S4.fh w1 o2'
  obtain ⟨p2, d2, f2, v2, g2⟩ := isO_at S4.fh w2 o4
  refine ⟨p1, p2, d1, d2, f1, f2, v1, v2, g1, g2, F4, a, S4.fh, by rw [← ea]; exact RepL.cons o2' (RepL.cons o4 (repL_nil.mpr rfl)), hp, fun v H' F' k1 k2 k3 k4 k5 => ⟨nni_ok k5 hn, ?_⟩⟩
  obtain ⟨S5, o5⟩ := S4.called k1 k2 k3 k4 k5
  exact k v H' F' ρ4 _ ((((e1.trans e2).trans e3).trans e4).trans k2) S5 o5 q4
theorem dv_ownNe {z : Cz} (hb : z.io.isSome = b) (h1 : DV z ta da) (h2 : DV z tb db) : DV z (tOp (rOwnNe C (c.sp z.K)) ta tb) (dOwnNe b C c da db) := by
  intro F H ρ σ Q R S q k
  refine h1 F H ρ σ _ _ S q fun x H1 F1 ρ1 ra e1 S1 o1 q1 => ?_
  obtain ⟨F2, ρ2, d, e2, S2, o2, q2⟩ := S1.fix hb o1 q1
  refine h2 F2 H1 ρ2 σ _ _ S2 q2 fun y H3 F3 ρ3 rb e3 S3 o3 q3 => ?_
  obtain ⟨F4, ρ4, e, e4, S4, o4, ⟨w1, w2⟩, a, ea, hp, w, hw, q4⟩ := S3.fix hb o3 q3
  have o2' := Rep.mono (e3.trans e4) o2
  obtain ⟨p1, d1, f1, v1, g1⟩ := isO_at S4.fh w1 o2'
  obtain ⟨p2, d2, f2, v2, g2⟩ := isO_at S4.fh w2 o4
  refine ⟨p1, p2, d1, d2, f1, f2, v1, v2, g1, g2, F4, a, S4.fh, by rw [← ea]; exact RepL.cons o2' (RepL.cons o4 (repL_nil.mpr rfl)), hp, fun v H' F' k1 k2 k3 k4 k5 => ?_⟩
  rw [hw] at k5
  obtain ⟨S5, o5⟩ := S4.called (r := .fr (.bl w)) k1 k2 k3 k4 k5
  exact ⟨w, res_bl o5, k _ H' F' ρ4 (.fr (.bl !w)) ((((e1.trans e2).trans e3).trans e4).trans k2) S5 ((rep_bl (K := z.K) (F := F')).mpr rfl) q4⟩
/-- x op y, x and y of the own class at C -/
theorem pd_own {op : Operator} {mm : Str} (M : Md X.prog X.w X.K X.mg X.base C mm k (c.sp X.K)) (hr : Room k X.A) (hc : PySem.W.selfFirst X.K C = true) (ha : PD X b e1 ta da) (hb : PD X b e2 tb db) (hm : mm = PySem.dunder op.info.2 := by decide) : PD X b (.BinOp e1 op e2 pos) (tOp (rOwn C (c.sp X.K)) ta tb) (dOwn b C c da db) := by
  obtain ⟨f, fd, ps, h1, h3, h6⟩ := M.ex
  subst hm
  refine ⟨pe_op (op_own h6 hr h1.at_ h1.fn h3 hc) ha.pe hb.pe, fun z hz => ?_⟩
  have e1 : X.K = z.K := hz.1.symm
  rw [e1]
  exact dv_own hz.2 (ha.dv z hz) (hb.dv z hz)
theorem pd_ownEq (M : Md X.prog X.w X.K X.mg X.base C "__eq__" k (c.sp X.K)) (hr : Room k X.A) (ha : PD X b e1 ta da) (hb : PD X b e2 tb db) (hm : behindInMarks .Eq e2 = false) : PD X b (.Compare e1 [.Eq] [e2] pos) (tOp (rOwn C (c.sp X.K)) ta tb) (dOwn b C c da db) := by
  obtain ⟨f, fd, ps, h1, h3, h6⟩ := M.ex
  refine ⟨pe_cmpR (op_ownEq h6 hr h1.at_ h1.fn h3) ha.pe hb.pe hm, fun z hz => ?_⟩
  have e1 : X.K = z.K := hz.1.symm
  rw [e1]
  exact dv_own hz.2 (ha.dv z hz) (hb.dv z hz)
/-- what of the text != asks where only __eq__ is an own one -/
structure NeF (K : PySem.W.Frag) (C : Addr) : Prop where
  ne : PySem.W.findIn K (.ref C) "__ne__" = some (some (.builtin "object.__ne__"))
  ob : PySem.W.subIn K (.ref C) (.type "object") = some true
theorem pd_ownNe (M : Md X.prog X.w X.K X.mg X.base C "__eq__" k (c.sp X.K)) (hr : Room (k + 1) X.A) (n : NeF X.K C) (ha : PD X b e1 ta da) (hb : PD X b e2 tb db) (hm : behindInMarks .NotEq e2 = false) : PD X b (.Compare e1 [.NotEq] [e2] pos) (tOp (rOwnNe C (c.sp X.K)) ta tb) (dOwnNe b C c da db) := by
  obtain ⟨f, fd, ps, h1, h3, h6⟩ := M.ex
  refine ⟨pe_cmpR (op_ownNe h6 hr h1.at_ h1.fn h3 n.ne n.ob) ha.pe hb.pe hm, fun z hz => ?_⟩
  have e1 : X.K = z.K := hz.1.symm
  rw [e1]
  exact dv_ownNe hz.2 (ha.dv z hz) (hb.dv z hz)
theorem pdt_ownEq (M : Md X.prog X.w X.K X.mg X.base C "__eq__" k (c.sp X.K)) (hr : Room k X.A) (ha : PD X b e1 ta da) (hb : PD X b e2 tb db) (hm : behindInMarks .Eq e2 = false) : PDT X b (.Compare e1 [.Eq] [e2] pos) (tTest (tOp (rOwn C (c.sp X.K)) ta tb)) (dB (dOwn b C c da db)) := by
  obtain ⟨f, fd, ps, h1, h3, h6⟩ := M.ex
  refine ⟨pt_cmpR (op_ownEq h6 hr h1.at_ h1.fn h3) ha.pe hb.pe hm, fun z hz => ?_⟩
  have e1 : X.K = z.K := hz.1.symm
  rw [e1]
  exact dv_b (dv_own hz.2 (ha.dv z hz) (hb.dv z hz))
theorem pdt_ownNe (M : Md X.prog X.w X.K X.mg X.base C "__eq__" k (c.sp X.K)) (hr : Room (k + 1) X.A) (n : NeF X.K C) (ha : PD X b e1 ta da) (hb : PD X b e2 tb db) (hm : behindInMarks .NotEq e2 = false) : PDT X b (.Compare e1 [.NotEq] [e2] pos) (tTest (tOp (rOwnNe C (c.sp X.K)) ta tb)) (dB (dOwnNe b C c da db)) := by
  obtain ⟨f, fd, ps, h1, h3, h6⟩ := M.ex
  refine ⟨pt_cmpR (op_ownNe h6 hr h1.at_ h1.fn h3 n.ne n.ob) ha.pe hb.pe hm, fun z hz => ?_⟩
  have e1 : X.K = z.K := hz.1.symm
  rw [e1]
  exact dv_b (dv_ownNe hz.2 (ha.dv z hz) (hb.dv z hz))
end
end DL
end
section
set_option Elab.async false
set_option linter.all false
set_option maxRecDepth 100000
set_option maxHeartbeats 4000000
/-! DL10: t[::-1], t * 1, staticmethods, class constants, isinstance, all, bit_length, attributes as targets. -/
namespace HT
open PySem PySem.Spec PyProof.Rows
section
variable {prog : Program} {w : World} {A : Around} {E : Value → Shared → Prop} {s : Shared}
theorem sliceApplied_rev {sl : Addr} {vs : Value} {n : Nat} {Q : Int × Int × Nat → Shared → Prop} (hs : s.heap.IsSliceOf sl .none .none vs) (ps : IsPart vs (some (-1)))
    (h : Q ((n : Int) - 1, -1, n) s) : wpAny (model prog w) A (Builtin.Slice.sliceApplied (.ref sl) (pure (n : Int))) Q E s := by
  obtain ⟨os, hos, hcs, hds⟩ := id hs
  unfold Builtin.Slice.sliceApplied Builtin.Slice.sliceFields
  refine wpAny_bind (wpAny_bind (wpAny_field hos hds (x := .none) rfl (wpAny_bind (wpAny_field hos hds (x := .none) rfl (wpAny_bind (wpAny_field hos hds (x := vs) rfl (wpAny_pure ?_)))))))
  refine wpAny_bind (slicePart_ ps ?_)
  show wpAny _ _ (if ((-1 : Int) == 0) = true then _ else _) _ _ s
  rw [if_neg (by decide)]
  refine wpAny_bind (slicePart_none (wpAny_bind (slicePart_none (wpAny_bind (wpAny_pure ?_)))))
  show wpAny _ _ (pure ((n : Int) - 1, (-1 : Int), Builtin.Slice.slicePlaces ((n : Int) - 1) (-1) (-1))) _ _ s
  have e : Builtin.Slice.slicePlaces ((n : Int) - 1) (-1) (-1) = n := by
    unfold Builtin.Slice.slicePlaces
    have h1 : ¬ ((-1 : Int) > 0) := by omega
    have h2 : (- (-1 : Int)) = 1 := by omega
    simp only [h1, if_false, h2, Int.ediv_one]
    split <;> omega
  rw [e]
  exact wpAny_pure h
theorem fm_congr {α β : Type} {f g : α → Option β} : ∀ {l : List α}, (∀ a ∈ l, f a = g a) → l.filterMap f = l.filterMap g
  | [], _ => rfl
  | a :: l, h => by rw [List.filterMap_cons, List.filterMap_cons, h a List.mem_cons_self, fm_congr fun b hb => h b (List.mem_cons_of_mem _ hb)]
theorem pick_rev (xs : Array Value) : ((List.range xs.size).filterMap fun (m : Nat) => xs[(((xs.size : Nat) : Int) - 1 + (m : Int) * (-1)).toNat]?).toArray = xs.toList.reverse.toArray := by
  have h := PySem.W.krv_pick xs
  unfold slicePick at h
  rw [PySem.W.krv_bounds] at h
  have h : ((sliceRange ((xs.size : Int) - 1) (-1) (-1)).filterMap (xs[·]?)).toArray = xs.toList.reverse.toArray := h
  rw [PySem.W.krv_sliceRange, List.filterMap_map] at h
  rw [← h]
  congr 1
  apply fm_congr
  intro m hm
  have hm' := List.mem_range.mp hm
  have e : (((xs.size : Nat) : Int) - 1 + (m : Int) * (-1)).toNat = xs.size - 1 - m := by omega
  show xs[(((xs.size : Nat) : Int) - 1 + (m : Int) * (-1)).toNat]? = xs[xs.size - 1 - m]?
  rw [e]
theorem getItem_tuple_rev {t sl : Addr} {items : Array Value} {vs : Value} {Q : Value → Shared → Prop} (ht : IsTup s.heap t items) (hs : s.heap.IsSliceOf sl .none .none vs) (ps : IsPart vs (some (-1)))
    (h : Q (.ref s.heap.objs.size) { s with heap := s.heap.push { cls := .type "tuple", data := .seq items.toList.reverse.toArray } }) (hsz : items.size ≤ sizeLine) : wpAny (model prog w) A (getItem (.ref t) (.ref sl)) Q E s := by
  have htake : sizeOk (.seq items.toList.reverse.toArray) := by
    show items.toList.reverse.toArray.size ≤ sizeLine
    rw [List.size_toArray, List.length_reverse, Array.length_toList]
    exact hsz
  obtain ⟨os, hos, hcs, hds⟩ := id hs
  have hTs : s.TypeIs (.ref sl) "slice" := ⟨os, hos, hcs⟩
  unfold getItem
  try with_reducible refine wpAny_holding ?_
  first | refine wpAny_bind (wpAny_pure ?_) | skip
  refine wpAny_bind (wpAny_sequenceKey ht.typeIs (by decide) ?_)
  refine wpAny_bind (wpAny_callSpecial?_slot (name := Str.ofString "__getitem__") ht.typeIs PyProof.Rows.slot_tuple_getitem
    (wpAny_call_entry PyProof.Rows.slot_tuple_getitem ht.typeIs entry_tuple_getitem ?_ (args_tuple_getitem _ _)))
  show wpAny _ _ (Builtin.Tuple.tupleItemsOf (.ref t) >>= _) _ _ s
  refine wpAny_bind (tupleItemsOf_ ht ?_)
  refine wpAny_bind (wpAny_typeOf hTs ?_)
  rw [if_pos (by decide)]
  refine wpAny_bind (sliceApplied_rev hs ps ?_)
  show wpAny _ _ (if (((items.size : Nat) : Int) - 1 == 0 && (-1 : Int) == 1 && items.size == items.size) = true then _ else _) _ _ s
  rw [if_neg (by rw [show ((-1 : Int) == 1) = false from rfl, Bool.and_false, Bool.false_and]; exact Bool.false_ne_true), pick_rev]
  first
    | exact wpAny_bind (m := Builtin.Tuple.tupleExact _) (wpAny_newObj_type (wpAny_pure ⟨_, rfl, wpAny_pure h⟩) htake)
    | exact wpAny_bind (m := Builtin.Tuple.tupleExact _) (wpAny_newObj_type (wpAny_bind (wpAny_pure (wpAny_pure ⟨_, rfl, wpAny_pure h⟩))) htake)
    | exact wpAny_bind (wpAny_bind (m := Builtin.Tuple.tupleExact _) (wpAny_newObj_type (wpAny_pure (wpAny_pure ⟨_, rfl, wpAny_pure h⟩)) htake))
    | exact wpAny_bind (wpAny_bind (m := Builtin.Tuple.tupleExact _) (wpAny_newObj_type (wpAny_pure ⟨_, rfl, wpAny_pure h⟩) htake))
end
end HT
namespace L2
open PySem PySem.Spec PyProof.Rows
section
variable {X : Cx}
def tRevT (K : PySem.W.Frag) (te : TE) : TE := fun σ H Q => te σ H fun x H1 => ∃ a xs, x = .ref a ∧ SqT K H1 a xs ∧ ∀ p, H1 p = none → Q (.ref p) (upd H1 p (.tup xs.reverse))
theorem pe_revT {e : Expr} {te : TE} {k : Nat} {p1 p2 p3 pos : Pos} (he : PE X e te) : PE X (.Subscript e (.Slice none none (some (.UnaryOp .USub (.Constant (.int 1) k p1) p2)) p3) pos) (tRevT X.K te) := by
  refine ⟨fun pins s σ H Q I h => ?_⟩
  refine Subscript_ (thn (he.run pins s σ H _ I h) fun v s1 ⟨x, H1, I1, r1, q1⟩ => ?_)
  obtain ⟨a, xs, ex, hx, q⟩ := q1
  subst ex
  cases r1
  have hst : PO X (some (.UnaryOp .USub (.Constant (.int 1) k p1) p2)) (tPart (tUn (rU fun i => .int (-i)) (tC (.int 1)))) := po_some (pe_un un_neg pe_int)
  refine wpAny_Slice (thn (po_none.run pins s1 σ H1 (fun o H2 => o = none ∧ H2 = H1) I1 ⟨rfl, rfl⟩) fun vl s2 ⟨l, H2, I2, pl, el, e2⟩ => ?_)
  subst el e2
  refine thn (po_none.run pins s2 σ H2 (fun o H3 => o = none ∧ H3 = H2) I2 ⟨rfl, rfl⟩) fun vu s3 ⟨u, H3, I3, pu, eu, e3⟩ => ?_
  subst eu e3
  refine thn (hst.run pins s3 σ H3 (fun o H4 => o = some (-1) ∧ H4 = H3) I3 ⟨1, rfl, -1, rfl, rfl, rfl⟩) fun vs s4 ⟨o, H4, I4, ps, eo, e4⟩ => ?_
  subst eo e4
  have I5 : Inv X pins σ H4 { s4 with heap := s4.heap.push { cls := .type "slice", data := .fields #[vl, vu, vs] } } := I4.kept (t' := s4.toks) fun b ob q => Heap.get?_push_of_some _ q
  obtain ⟨its, r, ht, hz⟩ := I5.tuple hx
  have hlen := r.length
  cases pl
  cases pu
  show wpAny (model X.prog X.w) X.A (subscriptTail e (.Slice none none (some (.UnaryOp .USub (.Constant (.int 1) k p1) p2)) p3) (.ref a) (.ref s4.heap.objs.size)) (EP X pins σ Q) X.xe { s4 with heap := s4.heap.push { cls := .type "slice", data := .fields #[.none, .none, vs] } }
  refine tail_any (ops := [.ref a, .ref s4.heap.objs.size]) ht.typeIs (PyProof.Rows.slot_tuple_getitem.lookup) ?_ (by with_unfolding_all rfl)
  refine HT.getItem_tuple_rev ht (Heap.IsSliceOf.new _ .none .none vs) ps ?_ (by rw [List.size_toArray]; omega)
  refine ⟨.ref _, _, I5.laid (t' := s4.toks) (o := .tup xs.reverse) (fun b ob q => Heap.get?_push_of_some _ q) (Nat.le_refl _) ?_, rfl, q _ (I5.hok.fresh (Nat.le_refl _))⟩
  exact ⟨by rw [List.length_reverse]; exact hz, _, r.reverse, IsTup.new _ _⟩
end
end L2
namespace L2
open PySem PySem.Spec PyProof.Rows
theorem tuple_mul1 (l : Addr) (items : Array Value) (n : Nat) (dd : Option Addr) (sl : Array (Option Value)) (u : Tok) :
    Meets (Builtin.«tuple.__mul__» ⟨[.ref l, .int 1 u], []⟩) (fun _ R s => s.heap.get? l = some { cls := .type "tuple", dict := dd, data := .seq items n, slots := sl } ∧ R (.ok (.ret (Value.ref l))) s) :=
  .of_wp fun prog w A R s h => by
    obtain ⟨hp, g, d, tk, os⟩ := s
    obtain ⟨hl, h⟩ := h
    have f1 := AutoSeq1.idx_int
    wp_walk using wpAny_loadPart' hl
    repeat (first
      | (refine wpAny_ite_false (decide_eq_false (by decide)) ?_; wp_walk using wpAny_loadPart' hl)
      | (refine wpAny_ite_true (decide_eq_true (by simp)) ?_; wp_walk using wpAny_loadPart' hl))
    exact ⟨_, rfl, h⟩
def rRep1 (K : PySem.W.Frag) : R2 := fun x y H Q => ∃ l xs, x = .ref l ∧ y = .int 1 ∧ SqT K H l xs ∧ Q (.ref l) H
section
variable {X : Cx}
theorem op_rep1 : OpR X (binaryOp .Mult) (rRep1 X.K) := by
  intro pins s σ H x y v u Q I rx ry h
  obtain ⟨l, xs, rfl, rfl, hT, q⟩ := h
  cases rx
  obtain ⟨t, rfl⟩ := ry
  obtain ⟨its, r, ⟨⟨cls, dd, data, sl⟩, ho, hc, n, hd⟩, hs⟩ := I.tuple hT
  simp only at hc hd
  subst hc hd
  refine wpAny_binaryOp_repeat_ref (T := "tuple") (U := "int") (by decide) ⟨_, ho, rfl⟩ (fun s' => typeIs_int s' 1 t) noFill_tuple_mul F.fills_int_mul F.slot_int_rmul repeat_tuple F.slot_int_index.lookup
    (call_meets F.slot_int_rmul (typeIs_int s 1 t) F.entry_int_rmul (F.args_int_rmul_2 _ _) (int_rmul_tuple 1 t l its.toArray n dd sl)
      ⟨ho, rfl, ⟨_, ho, rfl⟩, call_meets F.slot_tuple_mul ⟨_, ho, rfl⟩ F.entry_tuple_mul (F.args_tuple_mul_2 _ _) (tuple_mul1 l its.toArray n dd sl t) ⟨ho, ?_⟩⟩)
  exact ⟨.ref l, H, I, rfl, q⟩
/-- C.m(), m a staticmethod of the class at C without arguments -/
def tSM0 (C : Addr) (sp : Sp) (E : XK) (ta : TE) : TE := fun σ H Q => ta σ H fun x H1 => x = .ref C ∧ sp [] H1 Q E
theorem pe_smeth0 {C f p : Addr} {fd : FuncData} {ps : List Str} {m : Str} {mc : Value} {rest : List Value} {sp : Sp} {k : Nat} {CX : CXT} {E : XK} {o : Expr} {ta : TE} {pos apos : Pos} {pl : Sem Bool} (he : PE X o ta) (r : ClX.CRead X.K C mc) (hm : PySem.W.typeIn X.K (.ref C) = some mc)
    (e : PySem.W.findCls X.K (.ref C) mc m = some (.get (.builtin "staticmethod.__get__") (.ref p) .none (.ref C))) (hp : PySem.W.recIn X.K p "staticmethod" = some (.ref f :: rest)) (hk : PySem.W.keepIn X.K (.ref f) = true)
    (F : FnOk X.prog X.w X.K X.mg X.base CX k f fd ps sp) (hr : Room k X.A) (hb : Binds X.K fd ps []) (hx : Passes CX X E)
    (ht : eval (.Call (.Attribute o m apos) [] [] pos) X.env = (do
      let ov ← eval o X.env
      standAt apos.atName
      let (f, first) ← holding [ov] (getMethod ov m pl)
      callWith pos f first (backTo pos (starEach [] X.env)) (backToKw pos (keywordEach [] X.env))) := by rfl) :
    PE X (.Call (.Attribute o m apos) [] [] pos) (tSM0 C sp E ta) := by
  refine ⟨fun pins s σ H Q I h => ?_⟩
  refine PySem.W.methodCall_KW (pl := pl) (thn (he.run pins s σ H _ I h) fun u s1 ⟨x, H1, I1, rx, ex, q⟩ => ?_) ht
  subst ex
  obtain rfl : u = Value.ref C := rx
  obtain ⟨m', hF⟩ := I1.fr
  refine PySem.W.method_of_cls hF I1.ok.mod.kin r.ga (PySem.W.cls_sm hF I1.ok.mod.kin hm r.rd e hp rfl ?_)
  have I2 : Inv X pins σ H1 { s1 with toks := s1.toks + 1 } := I1.tok _
  exact PySem.W.callWith_K0 (first := []) I2.kIn hk (run_fn (us := []) (vs := []) F hr hb .nil hx I2 .nil q)
/-- x.f = .. as a target -/
def gFld (K : PySem.W.Frag) (ta : TE) (f : Str) : TG := fun v σ H Q => ta σ H fun x H1 => ∃ a C dx fs, x = .ref a ∧ H1 a = some (.ins C dx fs) ∧ Cls K C ∧ NoAttr K C f ∧ fs.length < 1000 ∧ Q σ (upd H1 a (.ins C dx (putF f v fs)))
theorem pg_fld {o : Expr} {f : Str} {ta : TE} {pos : Pos} (ho : PE X o ta) : PG X (.Attribute o f pos) (gFld X.K ta f) := by
  refine ⟨fun pins s σ H v u Q I r h => ?_⟩
  rw [assign_Attribute]
  refine wpAny_bind (wpAny_holding (thn (ho.run pins s σ H _ I h) fun ov s1 ⟨x, H1, I1, rx, a, C, dx, fs, ex, ea, c, n, l, q⟩ => ?_))
  subst ex
  obtain rfl : ov = Value.ref a := rx
  refine wpAny_bind (wpAny_standAt (wpAny_bind (wpAny_holding (setattr_ok I1 ea c n l r fun s3 I3 => ?_))))
  exact wpAny_release ⟨σ, _, I3, q⟩
end
end L2
end
section
set_option Elab.async false
set_option linter.all false
set_option maxRecDepth 100000
set_option maxHeartbeats 4000000
/-! DL11: the rules over data for what DL10 brings. -/
namespace DL
open PySem PySem.Spec PyProof.Rows L2 Evl
section
variable {K : PySem.W.Frag} {F H : Hp} {d : D} {x : V}
/-! ### types -/
inductive Ty where
  | non | bl | int | str | tup | lst
def Ty.s : Ty → String
  | .non => "NoneType" | .bl => "bool" | .int => "int" | .str => "str" | .tup => "tuple" | .lst => "list"
def tyD : D → Option Ty
  | .non => some .non | .bl _ => some .bl | .int _ => some .int | .str _ => some .str | .tup _ => some .tup | .lst _ => some .lst | .rl _ => some .lst | .obj _ _ _ => none | .adr _ => none
theorem tyX {t : Ty} (ex : Ex F H) (h : RepH K F H d x) (e : tyD d = some t) : TyX K H x (.type t.s) := by
  cases d with
  | non => cases e; rw [hNon h]; exact .base .non
  | bl b => cases e; rw [hBl h]; exact .base (.bl b)
  | int i => cases e; rw [hInt h]; exact .base (.int i)
  | str z => cases e; rw [hStr h]; exact .base (.str z)
  | tup ds =>
    cases e
    obtain ⟨a, vs, rfl, h1, _⟩ := hTup h
    rcases ex_t ex h1 with (h1 | ⟨o, h1⟩) | ⟨o, its, n, hk, hc, _⟩
    · exact .base (.tup h1)
    · exact .fTuple h1
    · exact .kTuple hk hc
  | lst ds =>
    cases e
    obtain ⟨a, vs, rfl, h1, _⟩ := hLst h
    exact .base (.lst h1)
  | rl ds =>
    cases e
    obtain ⟨a, vs, rfl, h1, _⟩ := hRl h
    rcases h1 with (h1 | ⟨o, h1⟩) | ⟨o, its, n, hk, hc, _⟩
    · exact .base (.lst h1)
    · exact .base (.frz h1)
    · exact .kList hk hc
  | obj C ns ds => cases e
  | adr a => cases e
def isInt : Ty → Bool
  | .int => true | .bl => true | _ => false
def isBool : Ty → Bool
  | .bl => true | _ => false
def isStr : Ty → Bool
  | .str => true | _ => false
def isTup : Ty → Bool
  | .tup => true | _ => false
def isLst : Ty → Bool
  | .lst => true | _ => false
theorem k_int : ∀ t : Ty, kitB t.s "int" = some (isInt t) := fun t => by cases t <;> decide +kernel
theorem k_bool : ∀ t : Ty, kitB t.s "bool" = some (isBool t) := fun t => by cases t <;> decide +kernel
theorem k_str : ∀ t : Ty, kitB t.s "str" = some (isStr t) := fun t => by cases t <;> decide +kernel
theorem k_tup : ∀ t : Ty, kitB t.s "tuple" = some (isTup t) := fun t => by cases t <;> decide +kernel
theorem k_lst : ∀ t : Ty, kitB t.s "list" = some (isLst t) := fun t => by cases t <;> decide +kernel
theorem kitAny2 {t : Ty} {b c : Bool} {T U : String} (h1 : kitB t.s T = some b) (h2 : kitB t.s U = some c) : PySem.W.kitAny K (.type t.s) [.type T, .type U] = some (b || c) :=
  kitAny_cons (kit_ty h1) (fun e => by subst e; exact kitAny_cons (kit_ty h2) (fun e => by subst e; exact kitAny_nil) (fun e => by subst e; rfl)) (fun e => by subst e; rfl)
end
section
variable {X : Cx} {b : Bool} {e : Expr} {te : TE} {t : DE} {pos p p2 p3 : Pos}
def dIsB (f : Ty → Bool) (t : DE) : DE := fun ρ Q => t ρ fun r ρ1 => ob (vw ρ1 r) fun d => ob (tyD d) fun k => Q (.fr (.bl (f k))) ρ1
theorem dv_isB {z : Cz} {f : Ty → Bool} {T : String} (hf : ∀ k : Ty, kitB k.s T = some (f k)) (h : DV z te t) : DV z (tCB (rIsi z.K) (tCons te (tCons (tC (.ty T)) tNil))) (dIsB f t) := by
  intro F H ρ σ Q R S q k
  refine h F H ρ σ _ _ S q fun v H1 F1 ρ1 ra e1 S1 o1 q1 => ?_
  obtain ⟨F2, e2, S2, h2⟩ := S1.hold o1
  obtain ⟨d, v1, q2⟩ := ob_iff.mp q1
  obtain ⟨ty, v2, q3⟩ := ob_iff.mp q2
  exact ⟨v, .ty T, .type ty.s, .type T, f ty, rfl, .ty T, tyX S2.fh (S2.see h2 v1) v2, kit_ty (hf ty), k _ H1 F2 ρ1 (.fr (.bl (f ty))) (e1.trans e2) S2 ((rep_bl (K := z.K) (F := F2)).mpr rfl) q3⟩
/-- isinstance(e, T), T a built-in type -/
theorem pd_isB {f : Ty → Bool} {T : String} {y : Str} (hf : ∀ k : Ty, kitB k.s T = some (f k)) (hm : X.mg "isinstance" = none) (hy : X.mg y = none) (ha : PD X b e te t) (hgl : Gl X "isinstance" := by rfl) (hgy : Gl X y := by rfl) (hv : bootBuiltins y = some (.type T) := by decide +kernel) (hn : y ≠ "__name__" := by decide) (hdb : (y == ("__debug__" : Str)) = false := by decide)
    (he : starEach [e, .Name y p2] X.env = (false, eval e X.env) :: starEach [.Name y p2] X.env := by rfl) (he2 : starEach [.Name y p2] X.env = (false, eval (.Name y p2) X.env) :: starEach [] X.env := by rfl) (hpl : (backTo pos (starEach [.Name y p2] X.env)).any (·.1) = false := by rfl) :
    PD X b (.Call (.Name "isinstance" p) [e, .Name y p2] [] pos) (tCB (rIsi X.K) (tCons te (tCons (tC (.ty T)) tNil))) (dIsB f t) :=
  ⟨pe_callB call_isi hgl hm PyProof.Rows.boot_isinstance (pa_cons ha.pe (pa_cons (pe_bltn hgy hy hv (v := .ty T) rfl hn hdb) pa_nil he2) he) (by decide) (by decide) he hpl, fun z hz => by
    have e1 : X.K = z.K := hz.1.symm
    rw [e1]
    exact dv_isB hf (ha.dv z hz)⟩
def dIsTL (t : DE) : DE := fun ρ Q => t ρ fun r ρ1 => ob (vw ρ1 r) fun d => ob (tyD d) fun k => Q (.fr (.bl (isTup k || isLst k))) ρ1
theorem dv_isTL {z : Cz} (h : DV z te t) : DV z (tCB (rIsiT z.K) (tCons te (tCons (tTup (tCons (tC (.ty "tuple")) (tCons (tC (.ty "list")) tNil))) tNil))) (dIsTL t) := by
  intro F H ρ σ Q R S q k
  refine h F H ρ σ _ _ S q fun v H1 F1 ρ1 ra e1 S1 o1 q1 => ?_
  obtain ⟨F2, e2, S2, h2⟩ := S1.hold o1
  obtain ⟨d, v1, q2⟩ := ob_iff.mp q1
  obtain ⟨ty, v2, q3⟩ := ob_iff.mp q2
  refine ⟨sz_of (by decide), fun tp htp => ?_⟩
  have S3 := S2.newF htp (.tup [.ty "tuple", .ty "list"])
  have e3 : Ex F2 (upd F2 tp (.tup [.ty "tuple", .ty "list"])) := Ex.new (S2.fz htp)
  exact ⟨v, tp, [.ty "tuple", .ty "list"], .type ty.s, [.type "tuple", .type "list"], _, rfl, upd_same, .cons (.ty _) (.cons (.ty _) .nil), tyX S3.fh (S3.see (h2.mono e3) v1) v2, kitAny2 (k_tup ty) (k_lst ty), k _ _ _ ρ1 (.fr (.bl (isTup ty || isLst ty))) ((e1.trans e2).trans e3) S3 ((rep_bl (K := z.K) (F := upd F2 tp (.tup [.ty "tuple", .ty "list"]))).mpr rfl) q3⟩
/-- isinstance(e, (tuple, list)) -/
theorem pd_isTL {kk : Nat} {p4 : Pos} (hm : X.mg "isinstance" = none) (hy : X.mg "tuple" = none) (hz : X.mg "list" = none) (ha : PD X b e te t) (hgl : Gl X "isinstance" := by rfl) (hgy : Gl X "tuple" := by rfl) (hgz : Gl X "list" := by rfl)
    (he : starEach [e, .Tuple [.Name "tuple" p2, .Name "list" p3] kk p4] X.env = (false, eval e X.env) :: starEach [.Tuple [.Name "tuple" p2, .Name "list" p3] kk p4] X.env := by rfl)
    (hpl : (backTo pos (starEach [.Tuple [.Name "tuple" p2, .Name "list" p3] kk p4] X.env)).any (·.1) = false := by rfl) :
    PD X b (.Call (.Name "isinstance" p) [e, .Tuple [.Name "tuple" p2, .Name "list" p3] kk p4] [] pos) (tCB (rIsiT X.K) (tCons te (tCons (tTup (tCons (tC (.ty "tuple")) (tCons (tC (.ty "list")) tNil))) tNil))) (dIsTL t) :=
  ⟨pe_callB call_isiT hgl hm PyProof.Rows.boot_isinstance (pa_cons ha.pe (pa_cons (pe_tup (pa_cons (pe_bltn hgy hy (u := .type "tuple") (by decide +kernel) (v := .ty "tuple") rfl) (pa_cons (pe_bltn hgz hz (u := .type "list") (by decide +kernel) (v := .ty "list") rfl) pa_nil))) pa_nil) he) (by decide) (by decide) he hpl, fun z hz => by
    have e1 : X.K = z.K := hz.1.symm
    rw [e1]
    exact dv_isTL (ha.dv z hz)⟩
/-- what isinstance asks of an own class -/
structure IsC (K : PySem.W.Frag) (mg : Str → Option Value) (y : Str) (C : Addr) : Prop where
  mg : mg y = some (.ref C)
  cl : Cls K C
  ha : PySem.W.findIn K (.ref C) "__class__" = some (some (.builtin "object.__class__"))
  hn : PySem.W.specialIn K (.builtin "object.__class__") "__get__" = some (some (.builtin "getset_descriptor.__get__"))
  htk : PySem.W.takesIn K (.builtin "object.__class__") = some true
  hm : PySem.W.mroIn K C (.type "object") = some true
  one : PySem.W.kitOne K (.ref C) (.ref C) = some true
def dIsC (C : Addr) (t : DE) : DE := fun ρ Q => t ρ fun r ρ1 => ob (vw ρ1 r) fun d => isO C d ∧ Q (.fr (.bl true)) ρ1
theorem dv_isC {z : Cz} {mg : Str → Option Value} {y : Str} {C : Addr} (c : IsC z.K mg y C) (h : DV z te t) : DV z (tCB (rIsi z.K) (tCons te (tCons (tC (.ref C)) tNil))) (dIsC C t) := by
  intro F H ρ σ Q R S q k
  refine h F H ρ σ _ _ S q fun v H1 F1 ρ1 ra e1 S1 o1 q1 => ?_
  obtain ⟨F2, e2, S2, h2⟩ := S1.hold o1
  obtain ⟨d, v1, ⟨ns, ds, ed⟩, q3⟩ := ob_iff.mp q1
  subst ed
  obtain ⟨a, dx, us, ev, g1, g2, _⟩ := S2.see h2 v1
  subst ev
  exact ⟨.ref a, .ref C, .ref C, .ref C, true, rfl, .own C, .base (.ins g1 c.cl c.ha c.hn c.htk c.hm), c.one, k _ H1 F2 ρ1 (.fr (.bl true)) (e1.trans e2) S2 ((rep_bl (K := z.K) (F := F2)).mpr rfl) q3⟩
theorem pd_isC {C : Addr} {y : Str} (c : IsC X.K X.mg y C) (hm : X.mg "isinstance" = none) (ha : PD X b e te t) (hgl : Gl X "isinstance" := by rfl) (hgy : Gl X y := by rfl) (hdb : (y == ("__debug__" : Str)) = false := by decide)
    (he : starEach [e, .Name y p2] X.env = (false, eval e X.env) :: starEach [.Name y p2] X.env := by rfl) (he2 : starEach [.Name y p2] X.env = (false, eval (.Name y p2) X.env) :: starEach [] X.env := by rfl) (hpl : (backTo pos (starEach [.Name y p2] X.env)).any (·.1) = false := by rfl) :
    PD X b (.Call (.Name "isinstance" p) [e, .Name y p2] [] pos) (tCB (rIsi X.K) (tCons te (tCons (tC (.ref C)) tNil))) (dIsC C t) :=
  ⟨pe_callB call_isi hgl hm PyProof.Rows.boot_isinstance (pa_cons ha.pe (pa_cons (pe_glob hgy c.mg (v := .ref C) rfl hdb) pa_nil he2) he) (by decide) (by decide) he hpl, fun z hz => by
    have e1 : X.K = z.K := hz.1.symm
    rw [e1]
    exact dv_isC (by rw [hz.1]; exact c) (ha.dv z hz)⟩

/-! ### t[::-1] -/
def gRevT : G1 := fun d q => match d with
  | .tup ds => q (.fr (.tup ds.reverse))
  | _ => False
theorem vo_revT {K : PySem.W.Frag} : VO1 K (fun x H Q => ∃ a xs, x = .ref a ∧ SqT K H a xs ∧ ∀ p, H p = none → Q (.ref p) (upd H p (.tup xs.reverse))) gRevT := by
  intro F H x d q Q ex h1 g k
  cases d with
  | tup ds =>
    obtain ⟨a, vs, rfl, h2, h3⟩ := hTup h1
    exact ⟨a, vs, rfl, ex_t ex h2, fun p hp => k _ _ _ _ (.tup hp h3.reverse) g⟩
  | _ => exact g.elim
theorem pd_revT {k : Nat} {p1 : Pos} (h : PD X b e te t) : PD X b (.Subscript e (.Slice none none (some (.UnaryOp .USub (.Constant (.int 1) k p1) p2)) p3) pos) (tRevT X.K te) (dUn gRevT t) :=
  ⟨pe_revT h.pe, fun z hz => by
    have e1 : X.K = z.K := hz.1.symm
    rw [e1]
    exact dv_un vo_revT (h.dv z hz)⟩
def gRevL : G1 := fun d q => match d with
  | .lst ds => q (.ow (.lst ds.reverse))
  | .rl ds => q (.ow (.lst ds.reverse))
  | _ => False
theorem vo_revL {K : PySem.W.Frag} : VO1 K (fun x H Q => ∃ a xs, x = .ref a ∧ SqL K H a xs ∧ ∀ p, H p = none → Q (.ref p) (upd H p (.lst xs.reverse))) gRevL := by
  intro F H x d q Q ex h1 g k
  cases d with
  | lst ds =>
    obtain ⟨a, vs, rfl, h2, h3⟩ := hLst h1
    exact ⟨a, vs, rfl, sq_of h2, fun p hp => k _ _ _ _ (.lst hp h3.reverse) g⟩
  | rl ds =>
    obtain ⟨a, vs, rfl, h2, h3⟩ := hRl h1
    exact ⟨a, vs, rfl, h2, fun p hp => k _ _ _ _ (.lst hp h3.reverse) g⟩
  | _ => exact g.elim
theorem pd_revL {k : Nat} {p1 : Pos} (h : PD X b e te t) : PD X b (.Subscript e (.Slice none none (some (.UnaryOp .USub (.Constant (.int 1) k p1) p2)) p3) pos) (tRevL X.K te) (dUn gRevL t) :=
  ⟨pe_revL h.pe, fun z hz => by
    have e1 : X.K = z.K := hz.1.symm
    rw [e1]
    exact dv_un vo_revL (h.dv z hz)⟩
/-! ### t * k -/
def gRepT : G2 := fun d e q => match d, e with
  | .tup ds, .int k => (ds ≠ [] ∧ 1 ≤ k ∧ k ≤ 1000 ∧ ds.length ≤ 1000) ∧ q (.fr (.tup (List.replicate k.toNat ds).flatten))
  | _, _ => False
theorem op_repTA : OpR X (binaryOp .Mult) (fun x y H Q => rRepT X.K x y H Q ∨ rRep1 X.K x y H Q) := op_repT.or op_rep1
theorem vo_repT {K : PySem.W.Frag} : VO2 K (fun x y H Q => rRepT K x y H Q ∨ rRep1 K x y H Q) gRepT := by
  intro F H x y d e q Q ex h1 h2 g k
  unfold gRepT at g
  split at g
  · rename_i ds i
    obtain ⟨⟨g1, g2, g3, g4⟩, g⟩ := g
    obtain ⟨a, vs, rfl, h3, h4⟩ := hTup h1
    have e2 := hInt h2
    subst e2
    by_cases h : i = 1
    · subst h
      have e3 : (List.replicate (1 : Int).toNat ds).flatten = ds := by simp
      rw [e3] at g
      exact .inr ⟨a, vs, rfl, rfl, ex_t ex h3, k _ _ _ _ (.same (rep_tup.mpr ⟨a, vs, rfl, h3, h4⟩)) g⟩
    · refine .inl ⟨a, i, vs, rfl, rfl, ex_t ex h3, fun z => g1 ?_, by omega, g3, by rw [← h4.length]; exact g4, fun p hp => k _ _ _ _ (.tup hp (h4.rep _)) g⟩
      have := h4.length
      rw [z] at this
      exact List.length_eq_zero_iff.mp this
  · exact g.elim
/-! ### a text's slice -/
def gSlT : G3 := fun d lo hi q => match d with
  | .str z => z.length ≤ 100000 ∧ q (.fr (.str (cutS z lo hi)))
  | _ => False
theorem vo_slT {K : PySem.W.Frag} : VO3 K L2.rSlS gSlT := by
  intro F H x d lo hi q Q ex h1 g k
  cases d with
  | str z =>
    have := hStr h1
    subst this
    exact ⟨z, rfl, sz_of g.1, k _ _ _ _ nStr g.2⟩
  | _ => exact g.elim
/-! ### all([..]) -/
def bools : List DL.D → Option (List Bool)
  | [] => some []
  | .bl c :: r => (bools r).map (c :: ·)
  | _ => none
def gAll : G1 := fun d q => match d with
  | .lst ds => ob (bools ds) fun bs => q (.fr (.bl (bs.all id)))
  | _ => False
theorem bools_rep {K : PySem.W.Frag} {F : Hp} : ∀ {ds : List DL.D} {bs : List Bool} {vs : List V}, bools ds = some bs → RepL K F ds vs → vs = bs.map V.bl
  | [], bs, vs, e, h => by cases e; exact repL_nil.mp h
  | d :: ds, bs, vs, e, h => by
    obtain ⟨v, r, rfl, h1, h2⟩ := repL_cons.mp h
    cases d with
    | bl c =>
      simp only [bools, Option.map_eq_some_iff] at e
      obtain ⟨bs', e1, rfl⟩ := e
      rw [rep_bl.mp h1, bools_rep e1 h2]
      rfl
    | _ => cases e
theorem vo_all {K : PySem.W.Frag} : VOA1 K (rAll K) gAll := by
  intro F H x d q Q ex h1 g k
  cases d with
  | lst ds =>
    obtain ⟨bs, e, g⟩ := ob_iff.mp g
    obtain ⟨a, vs, rfl, h2, h3⟩ := hLst h1
    have e2 := bools_rep e h3
    subst e2
    exact ⟨a, bs, rfl, sq_of h2, k _ _ _ _ nBl g⟩
  | _ => exact g.elim
/-! ### bit_length -/
def gBits : G1 := fun d q => match d with
  | .int i => q (.fr (.int (Builtin.Int.intBits i : Nat)))
  | _ => False
theorem vo_bits {K : PySem.W.Frag} : VO1 K (fun x H Q => ∃ i, x = .int i ∧ Q (.int (Builtin.Int.intBits i : Nat)) H) gBits := by
  intro F H x d q Q ex h1 g k
  cases d with
  | int i =>
    have := hInt h1
    subst this
    exact ⟨i, rfl, k _ _ _ _ nInt g⟩
  | _ => exact g.elim
theorem pd_bits {apos : Pos} (h : PD X b e te t) (hbase : attributeBase e "bit_length" X.env (eval e X.env) = eval e X.env := by rfl) (hline : (apos.endLine == pos.line) = true := by rfl) : PD X b (.Call (.Attribute e "bit_length" apos) [] [] pos) (tBits te) (dUn gBits t) :=
  ⟨pe_bits h.pe hbase hline, fun z hz => dv_un vo_bits (h.dv z hz)⟩
/-! ### a class's constant, a staticmethod -/
structure Cat (K : PySem.W.Frag) (mg : Str → Option Value) (y f : Str) (d : D) : Prop where
  ex : ∃ (C : Addr) (mc : Value) (v : V) (u : Value), mg y = some (.ref C) ∧ ClX.CRead K C mc ∧ ClX.CVal K C mc f v u ∧ ∀ F, Rep K F d v
theorem pd_cattr {y f : Str} {d : DL.D} (c : Cat X.K X.mg y f d) (hgl : Gl X y := by rfl) (hdb : (y == ("__debug__" : Str)) = false := by decide) (hb : attributeBase (.Name y p) f X.env (eval (.Name y p) X.env) = eval (.Name y p) X.env := by rfl) : PD X b (.Attribute (.Name y p) f pos) (ClX.tCVal X.K (tC (.ref c.ex.choose)) f) (dC d) := by
  refine ⟨ClX.pe_cval (pe_glob hgl c.ex.choose_spec.choose_spec.choose_spec.choose_spec.1 (v := .ref c.ex.choose) rfl hdb) hb, fun z hz F H ρ σ Q R S q k => ?_⟩
  obtain ⟨mc, v, u, h1, h2, h3, h4⟩ := c.ex.choose_spec
  exact ⟨_, mc, v, u, rfl, h2, h3, k v H F ρ (.fr d) (Ex.refl F) S (show Rep z.K F d v by rw [hz.1]; exact h4 F) q⟩
structure Sme (P : Program) (w : World) (K : PySem.W.Frag) (mg : Str → Option Value) (base : Heap) (y m : Str) (C : Addr) (k : Nat) (sp : Sp) : Prop where
  cls : mg y = some (.ref C)
  ex : ∃ (f p : Addr) (fd : FuncData) (ps : List Str) (mc : Value) (rest : List Value), ClX.CRead K C mc ∧ PySem.W.typeIn K (.ref C) = some mc ∧ PySem.W.findCls K (.ref C) mc m = some (.get (.builtin "staticmethod.__get__") (.ref p) .none (.ref C)) ∧ PySem.W.recIn K p "staticmethod" = some (.ref f :: rest) ∧ PySem.W.keepIn K (.ref f) = true ∧
    Binds K fd ps [] ∧ FnOk P w K mg base CX0 k f fd ps sp
def dSM0 (c : Ct) : DE := fun ρ Q => ∃ a : c.α, [] = c.args a ∧ c.pre a ∧ Q (c.res a) ρ
theorem pd_sm0 {y m : Str} {C : Addr} {k : Nat} {c : Ct} {apos : Pos} {pl : Sem Bool} (G : Sme X.prog X.w X.K X.mg X.base y m C k (c.sp X.K)) (hr : Room k X.A) (hgl : Gl X y := by rfl) (hdb : (y == ("__debug__" : Str)) = false := by decide)
    (ht : eval (.Call (.Attribute (.Name y p) m apos) [] [] pos) X.env = (do
      let ov ← eval (.Name y p) X.env
      standAt apos.atName
      let (f, first) ← holding [ov] (getMethod ov m pl)
      callWith pos f first (backTo pos (starEach [] X.env)) (backToKw pos (keywordEach [] X.env))) := by rfl) : PD X b (.Call (.Attribute (.Name y p) m apos) [] [] pos) (tSM0 C (c.sp X.K) E0 (tC (.ref C))) (dSM0 c) := by
  obtain ⟨f, q, fd, ps, mc, rest, h1, h2, h3, h4, h5, h6, h7⟩ := G.ex
  refine ⟨pe_smeth0 (pl := pl) (pe_glob hgl G.cls (v := .ref C) rfl hdb) h1 h2 h3 h4 h5 h7 hr h6 pass0 ht, fun z hz F H ρ σ Q R S q kk => ?_⟩
  obtain ⟨a, ea, hp, q⟩ := q
  refine ⟨rfl, F, a, S.fh, by rw [← ea]; exact repL_nil.mpr rfl, hp, fun v H' F' k1 k2 k3 k4 k5 => ?_⟩
  rw [← hz.1] at k5
  obtain ⟨S2, o2⟩ := S.called k1 k2 k3 k4 k5
  exact kk v H' F' ρ _ k2 S2 o2 q
/-! ### an attribute of an owned object, as a target -/
def dgFld (K : PySem.W.Frag) (j : Nat) (f : Str) : DG := fun d ρ Q => ∃ C ns ds, ρ[j]? = some (.ow (.obj C ns ds)) ∧ Cls K C ∧ NoAttr K C f ∧ ns.length < 1000 ∧ Q (ρ.set j (.ow (.obj C (putN f d ns ds).1 (putN f d ns ds).2)))
theorem pdg_fld (j : Nat) {x f : Str} (hN : X.N[j]? = some x := by rfl) (hv : Vis X.env.scope x := by first | exact Or.inl rfl | exact Or.inr (Or.inl rfl) | exact Or.inr (Or.inr rfl)) (hd : (x == ("__debug__" : Str)) = false := by decide)
    (hcd : (x == ("__classdict__" : Str)) = false := by decide) : PDG X b (.Attribute (.Name x p) f pos) (gFld X.K (tVar j) f) (dgFld X.K j f) := by
  refine ⟨pg_fld (pe_var hN hv hd hcd), fun z hz F H ρ σ d v Q R S r q k => ?_⟩
  obtain ⟨C, ns, ds, h2, c1, c2, hl, q2⟩ := q
  obtain ⟨w, hw, a, ea, dx, us, g1, g2, g3, g4⟩ := S.sl j _ h2
  subst ea
  refine ⟨.ref a, hw, a, C, dx, _, rfl, g1, c1, c2, by rw [List.length_zip]; omega, ?_⟩
  obtain ⟨us', k1, k2, k3⟩ := putN_ok r g3 g4
  rw [k1]
  have g5 : OwAt z.K F (upd H a (.ins C dx ((putN f d ns ds).1.zip us'))) a (.obj C (putN f d ns ds).1 (putN f d ns ds).2) :=
    ⟨dx, us', upd_same, by rw [upd_ne (fun e => by rw [e, g1] at g2; cases g2)]; exact g2, k2, k3⟩
  exact k F _ _ σ (Ex.refl F) (S.mutA h2 hw g1 (fun x e => nomatch e) (fun b hb e => by subst e; rw [g1] at hb; cases hb) g5) q2
end
end DL
end
section
set_option Elab.async false
set_option linter.all false
set_option maxRecDepth 100000
set_option maxHeartbeats 4000000
/-! DL12: facts of the text: a hook with any Bool, defs at any address; what each Bool gives. -/
namespace DL
open PySem PySem.Spec PyProof.Rows L2 Evl
open He (ga ma Fa eqO eqO_ok ba)
open He5 (wf wrapB DefA fnA valA)
abbrev Fr := PySem.W.Frag
def obsZ (ex : Fr → Bool) (fn : List DefA) (K : Fr) : He.AlD := (ex K && fn.all fun d => d.ok K, fn.map fun d => fnA K (d.at_ K))
def SaysZ (ex : Fr → Bool) (fn : List DefA) (K : Fr) : Prop := obsZ ex fn K = valA fn
/-- what the named globals reach -/
def rootsR (g : Addr → Option Obj) (xs : List Str) : List Addr := xs.flatMap fun x => match PySem.W.nsIn (He.frG g [mainGlobals]) mainGlobals x with
  | some (some v) => He.refV v
  | _ => []
def refsR (o : Obj) : List Addr := match o.data with
  | .func fd => He.refV fd.code ++ He.refV fd.defaults
  | .cls cd => cd.ns :: cd.mro.flatMap He.refV
  | .dict es _ => es.toList.flatMap fun e => He.refV e.val
  | .fields vs => (match o.cls with
    | .type c => if c = "property" ∨ c = "staticmethod" ∨ c = "classmethod" then vs.toList.flatMap He.refV else []
    | _ => [])
  | .seq its _ => its.toList.flatMap He.refV
  | _ => []
def nextR (g : Addr → Option Obj) (as : List Addr) : List Addr := as.flatMap fun a => match g a with
  | some o => refsR o
  | none => []
def frontR (g : Addr → Option Obj) : Nat → List Addr → List Addr
  | 0, as => as
  | n + 1, as => as ++ frontR g n (nextR g as)
def asR (g : Addr → Option Obj) (n : Nat) (xs : List Str) : List Addr := mainGlobals :: cStatics :: frontR g n (rootsR g xs)
def obsZG (n : Nat) (xs : List Str) (ex : Fr → Bool) (fn : List DefA) (g : Addr → Option Obj) : He.AlD := obsZ ex fn (He.frG g (asR g n xs))
def hookZ (n : Nat) (xs : List Str) (ex : Fr → Bool) (fn : List DefA) : PySem.W.Hook where
  α := He.AlD
  obs := fun s => obsZG n xs ex fn s.heap.get?
  val := fun _ => valA fn
  says := fun _ h => ∃ K : Fr, K.In h ∧ SaysZ ex fn K
  of := fun _ _ e => ⟨_, He.frG_in, e⟩
  keeps := fun _ _ _ ⟨K, hK, c⟩ k => ⟨K, PySem.W.Frag.In.keeps hK k, c⟩
theorem obsZG_eq {n : Nat} {xs : List Str} {ex : Fr → Bool} {fn : List DefA} {g : Addr → Option Obj} {s : Shared} (h : ∀ a, g a = s.heap.get? a) : obsZG n xs ex fn g = (hookZ n xs ex fn).obs s := by
  have e : g = s.heap.get? := funext h
  rw [e] <;> rfl
section
variable {ex : Fr → Bool} {fn : List DefA} {K : Fr}
theorem SaysZ.exOk (c : SaysZ ex fn K) : ex K = true := (ba (show (ex K && fn.all fun d => d.ok K) = true from congrArg (fun z : He.AlD => z.1) c)).1
theorem SaysZ.def_ (c : SaysZ ex fn K) (i : Nat) {d : DefA} (h : fn[i]? = some d := by rfl) : ∃ fd, L2.FunD K d.name d.qual d.params d.body d.scope (d.dvs K) (d.kws K) (d.at_ K) fd := by
  have c2 := (ba (show (ex K && fn.all fun d => d.ok K) = true from congrArg (fun z : He.AlD => z.1) c)).2
  have e : fn.map (fun d => fnA K (d.at_ K)) = fn.map DefA.val := congrArg (fun z : He.AlD => z.2) c
  have e2 : (fn.map fun d => fnA K (d.at_ K))[i]? = (fn.map DefA.val)[i]? := by rw [e]
  rw [List.getElem?_map, List.getElem?_map, h] at e2
  exact DefA.funD (Option.some.inj e2) (List.all_eq_true.mp c2 d (List.mem_of_getElem? h))
end
/-! ### constants -/
mutual
def kD (K : Fr) : D → Value → Bool
  | .non, .none => true
  | .bl b, .bool c => b == c
  | .int i, .int j _ => decide (i = j)
  | .str x, .str y _ => decide (x = y)
  | .tup ds, .ref a => match K.lookup a with
    | some ⟨.type c, _, .seq its _, _⟩ => decide (c = "tuple") && (decide (its.size ≤ sizeLine) && kDL K ds its.toList)
    | _ => false
  | _, _ => false
def kDL (K : Fr) : List D → List Value → Bool
  | [], [] => true
  | d :: ds, v :: vs => kD K d v && kDL K ds vs
  | _, _ => false
end
mutual
theorem kD_ok {K : Fr} : ∀ {d : D} {u : Value}, kD K d u = true → ∃ v, RelV v u ∧ ∀ F, Rep K F d v
  | .non, u, h => by
    cases u <;> first | (simp [kD] at h; done) | skip
    exact ⟨.non, rfl, fun F => rep_non.mpr rfl⟩
  | .bl b, u, h => by
    cases u <;> first | (simp [kD] at h; done) | skip
    rename_i c
    have : b = c := by simpa [kD] using h
    subst this
    exact ⟨.bl b, rfl, fun F => rep_bl.mpr rfl⟩
  | .int i, u, h => by
    cases u <;> first | (simp [kD] at h; done) | skip
    rename_i c t
    have : i = c := by simpa [kD] using h
    subst this
    exact ⟨.int i, ⟨t, rfl⟩, fun F => rep_int.mpr rfl⟩
  | .str i, u, h => by
    cases u <;> first | (simp [kD] at h; done) | skip
    rename_i c t
    have : i = c := by simpa [kD] using h
    subst this
    exact ⟨.str i, ⟨t, rfl⟩, fun F => rep_str.mpr rfl⟩
  | .tup ds, u, h => by
    cases u <;> first | (simp [kD] at h; done) | skip
    rename_i a
    rw [kD] at h
    split at h
    · rename_i c dd its n sl e
      obtain ⟨h1, h2⟩ := ba h
      obtain ⟨h3, h4⟩ := ba h2
      obtain ⟨vs, r, q⟩ := kDL_ok h4
      exact ⟨.ref a, rfl, fun F => rep_tup.mpr ⟨a, vs, rfl, .inr ⟨_, its, n, e, congrArg Value.type (of_decide_eq_true h1), rfl, of_decide_eq_true h3, r⟩, q F⟩⟩
    · cases h
  | .lst ds, u, h => by cases u <;> simp [kD] at h
  | .rl ds, u, h => by cases u <;> simp [kD] at h
  | .obj C ns ds, u, h => by cases u <;> simp [kD] at h
theorem kDL_ok {K : Fr} : ∀ {ds : List D} {us : List Value}, kDL K ds us = true → ∃ vs, Vals vs us ∧ ∀ F, RepL K F ds vs
  | [], us, h => by
    cases us with
    | nil => exact ⟨[], .nil, fun F => repL_nil.mpr rfl⟩
    | cons v vs => simp [kDL] at h
  | d :: ds, us, h => by
    cases us with
    | nil => simp [kDL] at h
    | cons v vs =>
      rw [kDL] at h
      obtain ⟨h1, h2⟩ := ba h
      obtain ⟨x, r, q⟩ := kD_ok h1
      obtain ⟨xs, rs, qs⟩ := kDL_ok h2
      exact ⟨x :: xs, .cons r rs, fun F => RepL.cons (q F) (qs F)⟩
end
structure Kon (K : Fr) (mg : Str → Option Value) (x : Str) (d : D) : Prop where
  ex : ∃ (v : V) (u : Value), mg x = some u ∧ RelV v u ∧ ∀ F, Rep K F d v
def konB (K : Fr) (x : Str) (d : D) : Bool := match PySem.W.nsIn K mainGlobals x with
  | some (some u) => kD K d u
  | _ => false
section
variable {K : Fr} {h : Heap} {mg : Str → Option Value} {x f m : Str} {d : D}
theorem kon_ok (X : K.In h) (G : h.Ns mainGlobals mg) (c : konB K x d = true) : Kon K mg x d := by
  unfold konB at c
  split at c
  · rename_i u e
    obtain ⟨v, r, q⟩ := kD_ok c
    exact ⟨v, u, PySem.W.mg_of X G e, r, q⟩
  · cases c
def bltB (K : Fr) (x : Str) (id : String) : Bool := eqO (PySem.W.nsIn K mainGlobals x) (some (some (.builtin id)))
theorem blt_ok {id : String} (X : K.In h) (G : h.Ns mainGlobals mg) (c : bltB K x id = true) : mg x = some (.builtin id) := PySem.W.mg_of X G (eqO_ok c)
/-! ### own classes -/
structure OwnC (K : Fr) (C : Addr) : Prop where
  ha : PySem.W.findIn K (.ref C) "__class__" = some (some (.builtin "object.__class__"))
  hn : PySem.W.specialIn K (.builtin "object.__class__") "__get__" = some (some (.builtin "getset_descriptor.__get__"))
  htk : PySem.W.takesIn K (.builtin "object.__class__") = some true
  hm : PySem.W.mroIn K C (.type "object") = some true
  one : PySem.W.kitOne K (.ref C) (.ref C) = some true
  sf : PySem.W.selfFirst K C = true
  rd : PySem.W.readsIn K C (.type "type") = true
  gt : PySem.W.specialIn K (.ref C) "__getattribute__" = some (some (.builtin "type.__getattribute__"))
  ty : PySem.W.typeIn K (.ref C) = some (.type "type")
  ob : PySem.W.subIn K (.ref C) (.type "object") = some true
def ownB (K : Fr) (x : Str) : Bool := eqO (PySem.W.findIn K (.ref (ga K x)) "__class__") (some (some (.builtin "object.__class__"))) && (eqO (PySem.W.specialIn K (.builtin "object.__class__") "__get__") (some (some (.builtin "getset_descriptor.__get__"))) &&
  (decide (PySem.W.takesIn K (.builtin "object.__class__") = some true) && (decide (PySem.W.mroIn K (ga K x) (.type "object") = some true) && (decide (PySem.W.kitOne K (.ref (ga K x)) (.ref (ga K x)) = some true) && (PySem.W.selfFirst K (ga K x) &&
  (PySem.W.readsIn K (ga K x) (.type "type") && (eqO (PySem.W.specialIn K (.ref (ga K x)) "__getattribute__") (some (some (.builtin "type.__getattribute__"))) && (decide (PySem.W.typeIn K (.ref (ga K x)) = some (.type "type")) && decide (PySem.W.subIn K (.ref (ga K x)) (.type "object") = some true)))))))))
theorem own_ok (c : ownB K x = true) : OwnC K (ga K x) := by
  obtain ⟨h1, h⟩ := ba c
  obtain ⟨h2, h⟩ := ba h
  obtain ⟨h3, h⟩ := ba h
  obtain ⟨h4, h⟩ := ba h
  obtain ⟨h5, h⟩ := ba h
  obtain ⟨h6, h⟩ := ba h
  obtain ⟨h7, h⟩ := ba h
  obtain ⟨h8, h⟩ := ba h
  obtain ⟨h9, h10⟩ := ba h
  exact ⟨eqO_ok h1, eqO_ok h2, of_decide_eq_true h3, of_decide_eq_true h4, of_decide_eq_true h5, h6, h7, eqO_ok h8, of_decide_eq_true h9, of_decide_eq_true h10⟩
theorem OwnC.is (o : OwnC K (ga K x)) (c : Cls K (ga K x)) (g : mg x = some (.ref (ga K x))) : IsC K mg x (ga K x) := ⟨g, c, o.ha, o.hn, o.htk, o.hm, o.one⟩
theorem OwnC.rdC (o : OwnC K (ga K x)) : ClX.CRead K (ga K x) (.type "type") := ⟨o.rd, o.gt⟩
def neB (K : Fr) (x : Str) : Bool := eqO (PySem.W.findIn K (.ref (ga K x)) "__ne__") (some (some (.builtin "object.__ne__")))
theorem ne_ok (o : OwnC K (ga K x)) (c : neB K x = true) : NeF K (ga K x) := ⟨eqO_ok c, o.ob⟩
/-! ### properties, staticmethods, class constants -/
def propB (K : Fr) (x m : Str) : Bool := eqO (PySem.W.findIn K (.ref (ga K x)) m) (some (some (.ref (ma K (ga K x) m)))) && (eqO (PySem.W.specialIn K (.ref (ma K (ga K x) m)) "__get__") (some (some (.builtin "property.__get__"))) &&
  (decide (PySem.W.takesIn K (.ref (ma K (ga K x) m)) = some true) && (match PySem.W.recIn K (ma K (ga K x) m) "property" with
    | some (.ref _ :: _) => true
    | _ => false)))
theorem wf_ok {C : Addr} {T : String} (h2 : (match PySem.W.recIn K (ma K C m) T with
    | some (.ref _ :: _) => true
    | _ => false) = true) : ∃ rest, PySem.W.recIn K (ma K C m) T = some (.ref (wf K C T m) :: rest) := by
  unfold wf
  split at h2
  · rename_i f r e
    exact ⟨r, by rw [e]⟩
  · cases h2
theorem prop_ok (c : propB K x m = true) : PropOf K (ga K x) m (ma K (ga K x) m) (wf K (ga K x) "property" m) := by
  obtain ⟨h1, h⟩ := ba c
  obtain ⟨h2, h⟩ := ba h
  obtain ⟨h3, h4⟩ := ba h
  exact ⟨eqO_ok h1, eqO_ok h2, of_decide_eq_true h3, wf_ok h4⟩
def smB (K : Fr) (x m : Str) : Bool := wrapB K (ga K x) "staticmethod" "staticmethod.__get__" m && PySem.W.keepIn K (.ref (wf K (ga K x) "staticmethod" m))
def catB (K : Fr) (x f : Str) (d : D) : Bool := match PySem.W.findCls K (.ref (ga K x)) (.type "type") f with
  | some (.val u) => kD K d u
  | _ => false
theorem cat_ok (o : OwnC K (ga K x)) (g : mg x = some (.ref (ga K x))) (c : catB K x f d = true) : Cat K mg x f d := by
  unfold catB at c
  split at c
  · rename_i u e
    obtain ⟨v, r, q⟩ := kD_ok c
    exact ⟨_, _, v, u, g, o.rdC, ⟨e, r⟩, q⟩
  · cases c
end
section
variable {P : Program} {w : World} {K : Fr} {mg : Str → Option Value} {base : Heap} {x m : Str} {k : Nat} {f : Addr} {fd : FuncData} {ps : List Str} {sp : Sp}
/-- from a def to the words of its call -/
theorem gd_of (g : mg x = some (.ref f)) (kp : PySem.W.keepIn K (.ref f) = true) (b : Binds K fd ps []) (F : FnOk P w K mg base CX0 k f fd ps sp) : Gd P w K mg base x k [] sp :=
  ⟨[], f, fd, ps, [], g, kp, b, .nil, fun _ => repL_nil.mpr rfl, F⟩
theorem md_of (c : Cls K (ga K x)) (q : Meth K (ga K x) m f) (b : Binds K fd ps []) (F : FnOk P w K mg base CX0 k f fd ps sp) : Md P w K mg base (ga K x) m k sp := ⟨c, f, fd, ps, q, b, F⟩
theorem prd_of (c : Cls K (ga K x)) (q : PropOf K (ga K x) m (ma K (ga K x) m) f) (b : Binds K fd ps []) (F : FnOk P w K mg base CX0 k f fd ps sp) : Prd P w K mg base (ga K x) m k sp := ⟨c, _, f, fd, ps, q, b, F⟩
theorem mkd_of (g : mg x = some (.ref (ga K x))) (q : Mk K (ga K x) f) (b : Binds K fd ps []) (F : FnOk P w K mg base CX0 k f fd ps sp) : Mkd P w K mg base x (ga K x) k [] sp :=
  ⟨[], f, fd, ps, [], g, q, b, .nil, fun _ => repL_nil.mpr rfl, F⟩
theorem sme_of (o : OwnC K (ga K x)) (g : mg x = some (.ref (ga K x))) (c : smB K x m = true) (b : Binds K fd ps []) (F : FnOk P w K mg base CX0 k (wf K (ga K x) "staticmethod" m) fd ps sp) : Sme P w K mg base x m (ga K x) k sp := by
  obtain ⟨c1, c2⟩ := ba c
  obtain ⟨h1, rest, h2⟩ := He5.wrapB_ok c1
  exact ⟨g, _, _, fd, ps, _, rest, o.rdC, o.ty, h1, h2, c2, b, F⟩
end
section
variable {X : Cx} {b : Bool} {pos : Pos}
theorem pd_kon {x : Str} {d : DL.D} (h : Kon X.K X.mg x d) (hg : Gl X x := by rfl) (hd : (x == ("__debug__" : Str)) = false := by decide) : PD X b (.Name x pos) (tC h.ex.choose) (dC d) := by
  obtain ⟨u, h1, h2, h3⟩ := h.ex.choose_spec
  exact ⟨pe_glob hg h1 h2 hd, fun z hz => dv_c fun F => by rw [hz.1]; exact h3 F⟩
end
end DL
end
section
set_option Elab.async false
set_option linter.all false
set_option maxRecDepth 100000
set_option maxHeartbeats 4000000
/-! DL13: range downwards; calls of instances. -/
namespace DL
open PySem PySem.Spec PyProof.Rows L2 Evl
def rngDn (lo : Int) (n : Nat) : List D := (List.range n).map fun (i : Nat) => D.int (lo + (i : Int) * (-1))
theorem rngDn_len (lo : Int) (n : Nat) : (rngDn lo n).length = n := by unfold rngDn; rw [List.length_map, List.length_range]
theorem rngDn_get {lo : Int} {n i : Nat} {d : D} (h : (rngDn lo n)[i]? = some d) : d = .int (lo + (i : Int) * (-1)) := by
  unfold rngDn at h
  rw [List.getElem?_map] at h
  by_cases hi : i < n
  · rw [List.getElem?_range hi] at h
    exact (Option.some.inj h).symm
  · rw [List.getElem?_eq_none (by simpa using hi)] at h
    cases h
theorem walk_dn {z : Cz} {F : Hp} {lo : Int} {n : Nat} : WalkOK z F (Itc lo (-1) n) (rngDn lo n) := by
  refine ⟨fun i H' F' e' e'' hi => ?_, fun i H' F' x H2 d e' e'' hi y => ?_, fun i H' F' e' e'' hi => ?_⟩
  · rw [rngDn_len] at hi; exact hi
  · obtain ⟨y1, y2⟩ := y
    rw [rngDn_get hi, y2]
    exact ⟨y1, rep_int.mpr rfl⟩
  · rw [rngDn_len] at hi; exact hi
def int3 : List D → Option (Int × Int × Int)
  | [.int m, .int n, .int c] => some (m, n, c)
  | _ => none
theorem int3_ok {ds : List D} {q : Int × Int × Int} (h : int3 ds = some q) : ds = [.int q.1, .int q.2.1, .int q.2.2] := by
  unfold int3 at h
  split at h
  · cases h; rfl
  · cases h
def dRng3 (u : DA) : DI := fun ρ Q => u ρ fun ds ρ1 => ob (int3 ds) fun q => (q.2.2 = -1 ∧ ((q.1 ≤ 100000 ∧ -100000 ≤ q.1) ∧ (q.2.1 ≤ 100000 ∧ -100000 ≤ q.2.1))) ∧ Q (rngDn q.1 (q.1 - q.2.1).toNat) ρ1
section
variable {X : Cx} {b : Bool} {tg e1 e2 e3 : Expr} {ta : TA} {da : DA} {p pos : Pos}
theorem rep3 {K : Fr} {F : Hp} {i j k : D} {xs : List V} (h : RepL K F [i, j, k] xs) : ∃ u v w, xs = [u, v, w] ∧ Rep K F i u ∧ Rep K F j v ∧ Rep K F k w := by
  obtain ⟨u, r, rfl, h1, h2⟩ := repL_cons.mp h
  obtain ⟨v, w, rfl, h3, h4⟩ := rep2 h2
  exact ⟨u, v, w, rfl, h1, h3, h4⟩
theorem pdi_range3 (hm : X.mg "range" = none) (h : PDA X b [e1, e2, e3] ta da) (hg : Gl X "range" := by rfl) (hs : starEach [e1, e2, e3] X.env = (false, eval e1 X.env) :: starEach [e2, e3] X.env := by rfl) (hpl : (backTo pos (starEach [e2, e3] X.env)).any (·.1) = false := by rfl) : PDI X b tg (.Call (.Name "range" p) [e1, e2, e3] [] pos) (iRng3 ta) (dRng3 da) := by
  refine ⟨pi_range3 hg hm h.pa hs hpl, fun z hz F H ρ σ Q R S q k => ?_⟩
  refine h.dv z hz F H ρ σ _ _ S q fun vs H1 F1 ρ1 ds e1 S1 o1 q1 => ?_
  obtain ⟨⟨i, j, c⟩, hn, ⟨hc, ⟨h1, h2⟩, h3, h4⟩, q2⟩ := ob_iff.mp q1
  have en := int3_ok hn
  subst en
  simp only at h1 h2 h3 h4 q2 o1 hc
  subst hc
  obtain ⟨u, v, w, rfl, r1, r2, r3⟩ := rep3 o1
  rw [rep_int.mp r1, rep_int.mp r2, rep_int.mp r3]
  exact ⟨i, j, -1, (i - j).toNat, rfl, RgC.neg (by omega) (by omega) (by omega) (by omega), k _ H1 F1 ρ1 _ e1 S1 walk_dn q2⟩
end
/-! ### an instance, called -/
structure Co (P : Program) (w : World) (K : Fr) (mg : Str → Option Value) (base : Heap) (C : Addr) (k : Nat) (sp : Sp) : Prop where
  ex : ∃ (g : Addr) (fd : FuncData) (ps : List Str), StX.CallO K C g ∧ Binds K fd ps [] ∧ FnOk P w K mg base CX0 k g fd ps sp
section
variable {X : Cx} {b : Bool} {fe e : Expr} {es : List Expr} {tf : TE} {df : DE} {ta : TA} {da : DA} {pos : Pos} {C : Addr} {c : Ct} {k : Nat}
def dCallO (b : Bool) (C : Addr) (c : Ct) (t : DE) (u : DA) : DE := fun ρ Q => t ρ fun r ρ1 => fx b ρ1 r fun d ρ2 => isO C d ∧ u ρ2 fun ds ρ3 => ∃ a : c.α, d :: ds = c.args a ∧ c.pre a ∧ Q (c.res a) ρ3
theorem pd_callO (M : Co X.prog X.w X.K X.mg X.base C k (c.sp X.K)) (hr : Room k X.A) (hf : PD X b fe tf df) (ha : PDA X b (e :: es) ta da)
    (ht : eval (.Call fe (e :: es) [] pos) X.env = (do callWith pos (← eval fe X.env) [] (backTo pos (starEach (e :: es) X.env)) (backToKw pos (keywordEach [] X.env))) := by rfl)
    (he : starEach (e :: es) X.env = (false, eval e X.env) :: starEach es X.env := by rfl) (hpl : (backTo pos (starEach es X.env)).any (·.1) = false := by rfl) :
    PD X b (.Call fe (e :: es) [] pos) (StX.tCallO X C (fun vs H Q E => c.sp X.K (vs ++ []) H Q E) E0 tf ta) (dCallO b C c df da) := by
  obtain ⟨g, fd, ps, h1, h2, h3⟩ := M.ex
  refine ⟨StX.pe_callO hf.pe h1 (h3.raw h2 .nil) hr pass0 ha.pa ht he hpl, fun z hz F H ρ σ Q R S q k => ?_⟩
  refine hf.dv z hz F H ρ σ _ _ S q fun v H1 F1 ρ1 r e1 S1 o1 q1 => ?_
  obtain ⟨F2, ρ2, d, e2, S2, o2, ⟨ns, ds, ed⟩, q2⟩ := S1.fix hz.2 o1 q1
  subst ed
  obtain ⟨a, dx, us, rfl, g1, g2, g3, g4⟩ := rep_obj.mp o2
  refine ⟨a, rfl, ?_⟩
  refine ha.dv z hz F2 H1 ρ2 σ _ _ S2 q2 fun vs H3 F3 ρ3 ds' e3 S3 o3 q3 => ?_
  obtain ⟨a', ea, hp, q4⟩ := q3
  have o2' := Rep.mono e3 o2
  obtain ⟨a2, dx2, us2, ev, k1, _⟩ := rep_obj.mp o2'
  have e5 : a = a2 := by cases ev; rfl
  subst e5
  refine ⟨.inr ⟨dx2, _, S3.fh _ _ k1⟩, F3, a', S3.fh, ?_, hp, fun v H' F' k1 k2 k3 k4 k5 => ?_⟩
  · rw [← ea, List.append_nil]
    rw [hz.1] at o2' o3
    exact RepL.cons o2' o3
  · rw [← hz.1] at k5
    obtain ⟨S4, o4⟩ := S3.called k1 k2 k3 k4 k5
    exact k v H' F' ρ3 _ (((e1.trans e2).trans e3).trans k2) S4 o4 q4
end
/-! ### the state, told anew -/
theorem whD_at {c : DT} {t : DS} {D : DEnds} {n : Nat} {ρ : Ro} (ρ' : Ro) (e : ρ = ρ') (h : whD c t D n ρ') : whD c t D n ρ := e ▸ h
theorem dSeq_at {t u : DS} {D : DEnds} {ρ : Ro} (ρ' : Ro) (e : ρ = ρ') (h : dSeq t u D ρ') : dSeq t u D ρ := e ▸ h
theorem dFor_at {i : DI} {g : DG} {t : DS} {D : DEnds} {ρ : Ro} (ρ' : Ro) (e : ρ = ρ') (h : dFor i g t D ρ') : dFor i g t D ρ := e ▸ h
theorem forD_at {g : DG} {t : DS} {D : DEnds} {ds : List DL.D} {ρ : Ro} (ρ' : Ro) (e : ρ = ρ') (h : forD g t D ds ρ') : forD g t D ds ρ := e ▸ h
theorem forD_is {g : DG} {t : DS} {D : DEnds} {ds : List DL.D} {ρ : Ro} (ds' : List DL.D) (ρ' : Ro) (e : ρ = ρ') (e' : ds = ds') (h : forD g t D ds' ρ') : forD g t D ds ρ := e ▸ e' ▸ h
theorem dWhile_at {c : DT} {t : DS} {D : DEnds} {ρ : Ro} (ρ' : Ro) (e : ρ = ρ') (h : dWhile c t D ρ') : dWhile c t D ρ := e ▸ h
theorem dRet_at {t : DE} {D : DEnds} {ρ : Ro} (ρ' : Ro) (e : ρ = ρ') (h : dRet t D ρ') : dRet t D ρ := e ▸ h
theorem dIfS_at {c : DT} {t u : DS} {D : DEnds} {ρ : Ro} (ρ' : Ro) (e : ρ = ρ') (h : dIfS c t u D ρ') : dIfS c t u D ρ := e ▸ h
theorem lcD_at {b : Bool} {vs : List Nat} {j : Nat} {c : DT} {t : DE} {ds acc : List DL.D} {ρ : Ro} {Q : List DL.D → Ro → Prop} (ρ' : Ro) (e : ρ = ρ') (h : lcD b vs j c t ds acc ρ' Q) : lcD b vs j c t ds acc ρ Q := e ▸ h
theorem lcD_is {b : Bool} {vs : List Nat} {j : Nat} {c : DT} {t : DE} {ds acc : List DL.D} {ρ : Ro} {Q : List DL.D → Ro → Prop} (ds' acc' : List DL.D) (ρ' : Ro) (e : ρ = ρ') (e1 : ds = ds') (e2 : acc = acc') (h : lcD b vs j c t ds' acc' ρ' Q) : lcD b vs j c t ds acc ρ Q := e ▸ e1 ▸ e2 ▸ h
end DL
end
section
set_option Elab.async false
set_option linter.all false
set_option maxRecDepth 100000
set_option maxHeartbeats 4000000
/-! DL14: loops by an invariant. -/
namespace DL
open PySem PySem.Spec PyProof.Rows L2 Evl
section
variable {g : DG} {t : DS} {D : DEnds} {α : Type} {f : α → DL.D}
theorem forD_ind (J : List α → Ro → Prop) : ∀ {xs : List α} {ρ : Ro} (h0 : J xs ρ) (step : ∀ x r ρ, J (x :: r) ρ → ∀ nx : Ro → Prop, (∀ ρ2, J r ρ2 → nx ρ2) → g (f x) ρ fun ρ' => t { D with nx := nx, ct := nx, bk := D.nx } ρ') (fin : ∀ ρ, J [] ρ → D.nx ρ), forD g t D (xs.map f) ρ
  | [], ρ, h0, step, fin => fin ρ h0
  | x :: r, ρ, h0, step, fin => by
    show g (f x) ρ fun ρ' => t { D with nx := forD g t D (r.map f), ct := forD g t D (r.map f), bk := D.nx } ρ'
    exact step x r ρ h0 _ fun ρ2 h2 => forD_ind J h2 step fin
theorem forD_rng {lo : Int} {n : Nat} (J : Nat → Ro → Prop) {ρ : Ro} (h0 : J 0 ρ) (step : ∀ i ρ, i < n → J i ρ → ∀ nx : Ro → Prop, (∀ ρ2, J (i + 1) ρ2 → nx ρ2) → g (.int (lo + (i : Int))) ρ fun ρ' => t { D with nx := nx, ct := nx, bk := D.nx } ρ') (fin : ∀ ρ, J n ρ → D.nx ρ) : forD g t D (rng lo n) ρ := by
  unfold rng
  refine forD_ind (f := fun (i : Nat) => DL.D.int (lo + (i : Int))) (fun r ρ => ∃ i, i ≤ n ∧ r = (List.range n).drop i ∧ J i ρ) ⟨0, Nat.zero_le _, (List.drop_zero).symm, h0⟩ (fun x r ρ hJ nx hn => ?_) (fun ρ hJ => ?_)
  · obtain ⟨i, hi, er, hJ⟩ := hJ
    have hlt : i < n := by
      apply Classical.byContradiction
      intro h
      have : (List.range n).drop i = [] := List.drop_eq_nil_of_le (by rw [List.length_range]; omega)
      rw [this] at er
      cases er
    have e2 := List.drop_eq_getElem_cons (l := List.range n) (i := i) (by rw [List.length_range]; exact hlt)
    rw [e2] at er
    injection er with e3 e4
    rw [List.getElem_range] at e3
    subst e3
    exact step x ρ hlt hJ nx fun ρ2 h2 => hn ρ2 ⟨x + 1, hlt, e4, h2⟩
  · obtain ⟨i, hi, er, hJ⟩ := hJ
    have : i = n := by
      apply Classical.byContradiction
      intro h
      have e2 := List.drop_eq_getElem_cons (l := List.range n) (i := i) (by rw [List.length_range]; omega)
      rw [e2] at er
      cases er
    subst this
    exact fin ρ hJ
theorem whD_ind {c : DT} (J : Nat → Ro → Prop) : ∀ {N n : Nat} {ρ : Ro} (h0 : J n ρ) (hn : n < N) (step : ∀ n ρ, J n ρ → ∀ nx : Ro → Prop, (∀ m ρ2, m < n → J m ρ2 → nx ρ2) → c ρ fun b ρ1 => if b = true then t { D with nx := nx, ct := nx, bk := D.nx } ρ1 else D.nx ρ1), whD c t D N ρ
  | 0, n, ρ, h0, hn, step => absurd hn (Nat.not_lt_zero _)
  | N + 1, n, ρ, h0, hn, step => by
    show c ρ fun b ρ1 => if b = true then t { D with nx := whD c t D N, ct := whD c t D N, bk := D.nx } ρ1 else D.nx ρ1
    exact step n ρ h0 _ fun m ρ2 hm hJ => whD_ind J hJ (by omega) step
theorem lcD_ind {b : Bool} {vs : List Nat} {j : Nat} {c : DT} {t : DE} {Q : List DL.D → Ro → Prop} (J : List α → List DL.D → Ro → Prop) : ∀ {xs : List α} {acc : List DL.D} {ρ : Ro} (h0 : J xs acc ρ)
    (step : ∀ x r acc ρ, J (x :: r) acc ρ → ∀ nx : List DL.D → Ro → Prop, (∀ acc' ρ', J r acc' ρ' → nx acc' ρ') → c (ρ.set j (.fr (f x))) fun k ρ1 => if k = true then t ρ1 fun r ρ2 => fx b ρ2 r fun e ρ3 => acc.length < 100000 ∧ nx (acc ++ [e]) (wipeD ρ3 vs) else nx acc (wipeD ρ1 vs))
    (fin : ∀ acc ρ, J [] acc ρ → Q acc ρ), lcD b vs j c t (xs.map f) acc ρ Q
  | [], acc, ρ, h0, step, fin => fin acc ρ h0
  | x :: r, acc, ρ, h0, step, fin => by
    show c (ρ.set j (.fr (f x))) fun k ρ1 => if k = true then t ρ1 fun r' ρ2 => fx b ρ2 r' fun e ρ3 => acc.length < 100000 ∧ lcD b vs j c t (r.map f) (acc ++ [e]) (wipeD ρ3 vs) Q else lcD b vs j c t (r.map f) acc (wipeD ρ1 vs) Q
    exact step x r acc ρ h0 _ fun acc' ρ' h' => lcD_ind J h' step fin
/-- a comprehension that maps: h is what comes of each, ρ0 the slots between two turns -/
theorem lcD_map {b : Bool} {vs : List Nat} {j : Nat} {c : DT} {t : DE} {Q : List DL.D → Ro → Prop} (h : α → DL.D) (ρ0 : Ro) {xs : List α} {ρ : Ro} (eρ : ρ = ρ0) (hz : xs.length ≤ 100000)
    (step : ∀ x acc, x ∈ xs → acc.length < 100000 → ∀ nx : List DL.D → Ro → Prop, nx (acc ++ [h x]) ρ0 → c (ρ0.set j (.fr (f x))) fun k ρ1 => if k = true then t ρ1 fun r ρ2 => fx b ρ2 r fun e ρ3 => acc.length < 100000 ∧ nx (acc ++ [e]) (wipeD ρ3 vs) else nx acc (wipeD ρ1 vs))
    (fin : Q (xs.map h) ρ0) : lcD b vs j c t (xs.map f) [] ρ Q := by
  subst eρ
  refine lcD_ind (fun r acc ρ' => ρ' = ρ ∧ acc ++ r.map h = xs.map h ∧ ∀ x ∈ r, x ∈ xs) ⟨rfl, rfl, fun x hx => hx⟩ (fun x r acc ρ' hJ nx hn => ?_) (fun acc ρ' hJ => ?_)
  · obtain ⟨e1, e2, e3⟩ := hJ
    subst e1
    have hl : acc.length < 100000 := by
      have := congrArg List.length e2
      simp only [List.length_append, List.length_map, List.length_cons] at this
      omega
    exact step x acc (e3 x List.mem_cons_self) hl nx (hn _ _ ⟨rfl, by rw [← e2]; simp, fun y hy => e3 y (List.mem_cons_of_mem _ hy)⟩)
  · obtain ⟨e1, e2, e3⟩ := hJ
    subst e1
    rw [List.map_nil, List.append_nil] at e2
    rw [e2]
    exact fin
end
end DL
end
section
set_option Elab.async false
set_option linter.all false
set_option maxRecDepth 100000
set_option maxHeartbeats 4000000
/-! DL15: a list of two lists that is made, filled by x[i][k] = e in loops, and then stands. -/
namespace DL
open PySem PySem.Spec PyProof.Rows L2 Evl
section
variable {z : Cz} {F F' H H' : Hp} {ρ ρ' : Ro} {σ σ' : L2.St} {a b1 b2 L : Addr} {v1 v2 xs ys : List V} {x1 x2 : List DL.D} {j : Nat}
def Far (ρ : Ro) (σ : L2.St) (L : Addr) : Prop := ∀ (i : Nat) (o' : Ow), ρ[i]? = some (.ow o') → σ[i]? ≠ some (some (.ref L))
/-- another content of a list that nobody sees -/
theorem Sta.chg (S : Sta z F H ρ σ) (hF : F L = none) (hf : z.F0 L = none) (h0 : z.H0 L = none) (io : z.io ≠ some L) (far : Far ρ σ L) (e : H L = some (.lst xs)) : Sta z F (upd H L (.lst ys)) ρ σ :=
  ((S.guard ⟨e, hF, h0, io, far⟩).unguard (q := .lst []) hf h0 io (fun x e => by cases e)).2.1
theorem upd_id {o : HO} (e : H L = some o) : upd H L o = H := by
  funext b
  by_cases h : b = L
  · subst h; rw [upd_same, e]
  · rw [upd_ne h]
structure Mx (z : Cz) (a b1 b2 : Addr) : Prop where
  n1 : b2 ≠ b1
  n2 : a ≠ b1
  n3 : a ≠ b2
  f1 : z.F0 b1 = none
  f2 : z.F0 b2 = none
  f3 : z.F0 a = none
  h1 : z.H0 b1 = none
  h2 : z.H0 b2 = none
  h3 : z.H0 a = none
  i1 : z.io ≠ some b1
  i2 : z.io ≠ some b2
  i3 : z.io ≠ some a
def gz (z : Cz) (a b1 b2 : Addr) (v1 v2 : List V) : Cz := grd (grd (grd z b1 v1) b2 v2) a [.ref b1, .ref b2]
structure Bare (F H : Hp) (ρ : Ro) (σ : L2.St) (a b1 b2 : Addr) (v1 v2 : List V) : Prop where
  ha : H a = some (.lst [.ref b1, .ref b2])
  hb1 : H b1 = some (.lst v1)
  hb2 : H b2 = some (.lst v2)
  fa : F a = none
  fb1 : F b1 = none
  fb2 : F b2 = none
  ra : Far ρ σ a
  r1 : Far ρ σ b1
  r2 : Far ρ σ b2
theorem Mx.gh2 (m : Mx z a b1 b2) : (grd z b1 v1).H0 b2 = none := by
  show upd z.H0 b1 _ b2 = none
  rw [upd_ne m.n1]; exact m.h2
theorem Mx.gh3 (m : Mx z a b1 b2) : (grd (grd z b1 v1) b2 v2).H0 a = none := by
  show upd (upd z.H0 b1 _) b2 _ a = none
  rw [upd_ne m.n3, upd_ne m.n2]; exact m.h3
theorem Mx.gex (m : Mx z a b1 b2) : Ex z.H0 (gz z a b1 b2 v1 v2).H0 :=
  ((Ex.new m.h1).trans (Ex.new (m.gh2 (v1 := v1)))).trans (Ex.new (m.gh3 (v1 := v1) (v2 := v2)))
theorem Sta.regz (m : Mx z a b1 b2) (S : Sta z F H ρ σ) (B : Bare F H ρ σ a b1 b2 v1 v2) : Sta (gz z a b1 b2 v1 v2) F H ρ σ := by
  have S1 := S.guard ⟨B.hb1, B.fb1, m.h1, m.i1, B.r1⟩
  have S2 := S1.guard ⟨B.hb2, B.fb2, m.gh2, m.i2, B.r2⟩
  exact S2.guard ⟨B.ha, B.fa, m.gh3, m.i3, B.ra⟩
theorem Sta.ungz (m : Mx z a b1 b2) (S : Sta (gz z a b1 b2 v1 v2) F H ρ σ) : Sta z F H ρ σ ∧ Bare F H ρ σ a b1 b2 v1 v2 := by
  obtain ⟨e1, S1, f1, r1⟩ := Sta.unguard (z := grd (grd z b1 v1) b2 v2) (o := .lst [.ref b1, .ref b2]) (q := .lst []) S m.f3 m.gh3 m.i3 (fun x e => nomatch e)
  rw [upd_id e1] at S1
  obtain ⟨e2, S2, f2, r2⟩ := Sta.unguard (z := grd z b1 v1) (o := .lst v2) (q := .lst []) S1 m.f2 m.gh2 m.i2 (fun x e => nomatch e)
  rw [upd_id e2] at S2
  obtain ⟨e3, S3, f3, r3⟩ := Sta.unguard (z := z) (o := .lst v1) (q := .lst []) S2 m.f1 m.h1 m.i1 (fun x e => nomatch e)
  rw [upd_id e3] at S3
  exact ⟨S3, e1, e3, e2, f1, f3, f2, r1, r3, r2⟩
/-- the state with such a list at the slot j -/
structure StM (z : Cz) (j : Nat) (F H : Hp) (ρ : Ro) (σ : L2.St) (x1 x2 : List DL.D) : Prop where
  ex : ∃ a b1 b2 v1 v2, Mx z a b1 b2 ∧ Sta (gz z a b1 b2 v1 v2) F H ρ σ ∧ RepL z.K F x1 v1 ∧ RepL z.K F x2 v2 ∧ ρ[j]? = some (.fr (.adr a))
theorem adr_at (S : Sta z F H ρ σ) (h : ρ[j]? = some (.fr (.adr a))) : σ[j]? = some (some (.ref a)) := by
  obtain ⟨w, hw, x, e1, r⟩ := S.sl j _ h
  rw [e1] at hw
  rw [hw, rep_adr.mp r]
end
abbrev MS := Ro → List DL.D → List DL.D → Prop
abbrev DM := MS → MS
def DVM (z : Cz) (j : Nat) (ts : TS) (t : DM) : Prop := ∀ (N : MS) (E : Ends) F H ρ σ x1 x2, StM z j F H ρ σ x1 x2 → t N ρ x1 x2 → (∀ F' H' ρ' σ' y1 y2, Ex F F' → StM z j F' H' ρ' σ' y1 y2 → N ρ' y1 y2 → E.nx σ' H') → ts E σ H
structure PDM (X : Cx) (b : Bool) (j : Nat) (st : Stmt) (ts : TS) (t : DM) : Prop where
  ps : PS X st ts
  dv : ∀ z, At X b z → DVM z j ts t
structure PDMs (X : Cx) (b : Bool) (j : Nat) (st : List Stmt) (ts : TS) (t : DM) : Prop where
  ps : PSs X st ts
  dv : ∀ z, At X b z → DVM z j ts t
section
variable {X : Cx} {b : Bool} {j : Nat} {st : Stmt} {rest body : List Stmt} {ts us : TS} {t u : DM} {d : DS} {e : Expr} {te : TE} {de : DE} {pos p p1 p2 p3 p4 : Pos}
theorem At.gz {z : Cz} {a b1 b2 : Addr} {v1 v2 : List V} (hz : At X b z) (m : Mx z a b1 b2) : At X b (gz z a b1 b2 v1 v2) := ⟨hz.1, hz.2, hz.3.trans m.gex⟩
def dmLift (j : Nat) (d : DS) : DM := fun N ρ x1 x2 => d { nx := fun ρ' => ρ'[j]? = ρ[j]? ∧ N ρ' x1 x2, rt := fun _ _ => False } ρ
theorem pdm_of (h : PDS X b st ts d) : PDM X b j st ts (dmLift j d) := by
  refine ⟨h.ps, fun z hz N E F H ρ σ x1 x2 S q k => ?_⟩
  obtain ⟨a, b1, b2, v1, v2, m, S, r1, r2, hj⟩ := S.ex
  refine h.dv _ (hz.gz m) _ E F H ρ σ S q ⟨fun F' H' ρ' σ' e S' q' => ?_, fun _ _ _ _ _ _ _ _ _ q => q.elim, fun _ _ _ _ _ _ q => q.elim, fun _ _ _ _ _ _ q => q.elim⟩
  exact k F' H' ρ' σ' x1 x2 e ⟨a, b1, b2, v1, v2, m, S', r1.mono e, r2.mono e, by rw [q'.1]; exact hj⟩ q'.2
theorem pdms_one (h : PDM X b j st ts t) : PDMs X b j [st] ts t := ⟨pss_one h.ps, h.dv⟩
def dmSeq (t u : DM) : DM := fun N => t (u N)
theorem pdms_cons (h1 : PDM X b j st ts t) (h2 : PDMs X b j rest us u) : PDMs X b j (st :: rest) (tSeq ts us) (dmSeq t u) :=
  ⟨pss_cons h1.ps h2.ps, fun z hz N E F H ρ σ x1 x2 S q k => h1.dv z hz _ _ F H ρ σ x1 x2 S q fun F' H' ρ' σ' y1 y2 e S' q' => h2.dv z hz N E F' H' ρ' σ' y1 y2 S' q' fun F2 H2 ρ2 σ2 z1 z2 e2 S2 q2 => k F2 H2 ρ2 σ2 z1 z2 (e.trans e2) S2 q2⟩
def dmIf (j : Nat) (c : DT) (t u : DM) : DM := fun N ρ x1 x2 => c ρ fun b ρ' => ρ'[j]? = ρ[j]? ∧ if b = true then t N ρ' x1 x2 else u N ρ' x1 x2
theorem pdm_if {c : Expr} {l r : List Stmt} {tc : TT} {dc : DT} (hc : PDT X b c tc dc) (h1 : PDMs X b j l ts t) (h2 : PDMs X b j r us u) : PDM X b j (.If c l r pos) (tIfS tc ts us) (dmIf j dc t u) := by
  refine ⟨ps_if hc.pt h1.ps h2.ps, fun z hz N E F H ρ σ x1 x2 S q k => ?_⟩
  obtain ⟨a, b1, b2, v1, v2, m, S, r1, r2, hj⟩ := S.ex
  refine hc.dv _ (hz.gz m) F H ρ σ _ _ S q fun c H' F' ρ' e S' q' => ?_
  have SM : StM z j F' H' ρ' σ x1 x2 := ⟨a, b1, b2, v1, v2, m, S', r1.mono e, r2.mono e, by rw [q'.1]; exact hj⟩
  cases c with
  | true => exact h1.dv z hz N E F' H' ρ' σ x1 x2 SM q'.2 fun F2 H2 ρ2 σ2 z1 z2 e2 S2 q2 => k F2 H2 ρ2 σ2 z1 z2 (e.trans e2) S2 q2
  | false => exact h2.dv z hz N E F' H' ρ' σ x1 x2 SM q'.2 fun F2 H2 ρ2 σ2 z1 z2 e2 S2 q2 => k F2 H2 ρ2 σ2 z1 z2 (e.trans e2) S2 q2
/-- x[i][k] = e, x at the slot j, i and k names at si and sk -/
def dmStore (b : Bool) (j si sk : Nat) (t : DE) : DM := fun N ρ x1 x2 => t ρ fun r ρ1 => fx b ρ1 r fun d ρ2 => ρ2[j]? = ρ[j]? ∧ ∃ i k : Nat, ρ2[si]? = some (.fr (.int i)) ∧ ρ2[sk]? = some (.fr (.int k)) ∧
  ((i = 0 ∧ k < x1.length ∧ N ρ2 (x1.set k d) x2) ∨ (i = 1 ∧ k < x2.length ∧ N ρ2 x1 (x2.set k d)))
theorem ix_lt {n k : Nat} (h : k < n) : ixN n (k : Int) = some k := by
  unfold ixN
  rw [if_pos (by omega), if_pos (by omega), Int.toNat_natCast]
theorem pdm_store (si sk : Nat) {x y w : Str} {py pw : Pos} (h : PD X b e te de) (hN : X.N[j]? = some x := by rfl) (hv : Vis X.env.scope x := by first | exact Or.inl rfl | exact Or.inr (Or.inl rfl) | exact Or.inr (Or.inr rfl)) (hd : (x == ("__debug__" : Str)) = false := by decide) (hcd : (x == ("__classdict__" : Str)) = false := by decide)
    (yN : X.N[si]? = some y := by rfl) (yv : Vis X.env.scope y := by first | exact Or.inl rfl | exact Or.inr (Or.inl rfl) | exact Or.inr (Or.inr rfl)) (yd : (y == ("__debug__" : Str)) = false := by decide) (ycd : (y == ("__classdict__" : Str)) = false := by decide)
    (wN : X.N[sk]? = some w := by rfl) (wv : Vis X.env.scope w := by first | exact Or.inl rfl | exact Or.inr (Or.inl rfl) | exact Or.inr (Or.inr rfl)) (wd : (w == ("__debug__" : Str)) = false := by decide) (wcd : (w == ("__classdict__" : Str)) = false := by decide)
    (hp : PlainIx (.Name y py) := by intro _ _; rfl)
    (ha : ∀ v, assign (.Subscript (.Subscript (.Name x p) (.Name y py) p2) (.Name w pw) p1) X.env v = (do
      let ov ← holding [v] (eval (.Subscript (.Name x p) (.Name y py) p2) X.env)
      let iv ← holding [v, ov] (eval (.Name w pw) X.env)
      standAt p1
      holding [v, ov, iv] (setItem ov iv v)
      release [v, ov, iv] []) := by intro _; rfl) (hs : swapsWithSole [.Subscript (.Subscript (.Name x p) (.Name y py) p2) (.Name w pw) p1] e pos.line X.env = pure false := by rfl) (hw : swappedStores [.Subscript (.Subscript (.Name x p) (.Name y py) p2) (.Name w pw) p1] e X.env = pure none := by rfl)
    (h1 : (assignEach [.Subscript (.Subscript (.Name x p) (.Name y py) p2) (.Name w pw) p1] X.env).map (·.2) = [assign (.Subscript (.Subscript (.Name x p) (.Name y py) p2) (.Name w pw) p1) X.env] := by rfl) :
    PDM X b j (.Assign [.Subscript (.Subscript (.Name x p) (.Name y py) p2) (.Name w pw) p1] e pos) (tAsg te (L2.gSub (tOp (rIx X.K) (tVar j) (tVar si)) (tVar sk) rSetL)) (dmStore b j si sk de) := by
  refine ⟨ps_asg h.pe (pg_sub (pe_ix ix_seq (pe_var hN hv hd hcd) (pe_var yN yv yd ycd) hp) (pe_var wN wv wd wcd) set_list ha) hs hw h1, fun z hz N E F H ρ σ x1 x2 S q k => ?_⟩
  obtain ⟨a, b1, b2, v1, v2, m, S, r1, r2, hj⟩ := S.ex
  refine h.dv _ (hz.gz m) F H ρ σ _ _ S q fun v H1 F1 ρ1 r e1 S1 o1 q1 => ?_
  obtain ⟨F2, ρ2, dd, e2, S2, o2, ej, i, kk, hi, hk, q2⟩ := S1.fix (show (gz z a b1 b2 v1 v2).io.isSome = b from hz.2) o1 q1
  have hj2 : ρ2[j]? = some (.fr (.adr a)) := by rw [ej]; exact hj
  have va := adr_at S2 hj2
  have vi : σ[si]? = some (some (.int i)) := by
    obtain ⟨w, hw, x, e3, r⟩ := S2.sl si _ hi
    rw [hw, e3, rep_int.mp r]
  have vk : σ[sk]? = some (some (.int kk)) := by
    obtain ⟨w, hw, x, e3, r⟩ := S2.sl sk _ hk
    rw [hw, e3, rep_int.mp r]
  obtain ⟨S3, B⟩ := S2.ungz m
  have r1' := r1.mono (e1.trans e2)
  have r2' := r2.mono (e1.trans e2)
  have o2' : Rep z.K F2 dd v := o2
  refine ⟨.ref a, va, .int i, vi, .inl ?_⟩
  rcases q2 with ⟨e4, hl, q2⟩ | ⟨e4, hl, q2⟩
  · subst e4
    refine ⟨a, [.ref b1, .ref b2], 0, .ref b1, rfl, rfl, sq_of B.ha, rfl, ?_⟩
    refine ⟨.int kk, vk, b1, v1, (kk : Int), kk, rfl, rfl, B.hb1, ix_lt (by rw [← r1.length]; exact hl), ?_⟩
    have S4 := S3.chg (ys := v1.set kk v) B.fb1 m.f1 m.h1 m.i1 B.r1 B.hb1
    have B4 : Bare F2 (upd H1 b1 (.lst (v1.set kk v))) ρ2 σ a b1 b2 (v1.set kk v) v2 := ⟨by rw [upd_ne m.n2]; exact B.ha, upd_same, by rw [upd_ne m.n1]; exact B.hb2, B.fa, B.fb1, B.fb2, B.ra, B.r1, B.r2⟩
    exact k F2 _ ρ2 σ _ _ (e1.trans e2) ⟨a, b1, b2, _, _, m, S4.regz m B4, r1'.set o2' kk, r2', hj2⟩ q2
  · subst e4
    refine ⟨a, [.ref b1, .ref b2], 1, .ref b2, rfl, rfl, sq_of B.ha, rfl, ?_⟩
    refine ⟨.int kk, vk, b2, v2, (kk : Int), kk, rfl, rfl, B.hb2, ix_lt (by rw [← r2.length]; exact hl), ?_⟩
    have S4 := S3.chg (ys := v2.set kk v) B.fb2 m.f2 m.h2 m.i2 B.r2 B.hb2
    have B4 : Bare F2 (upd H1 b2 (.lst (v2.set kk v))) ρ2 σ a b1 b2 v1 (v2.set kk v) := ⟨by rw [upd_ne m.n3]; exact B.ha, by rw [upd_ne (Ne.symm m.n1)]; exact B.hb1, upd_same, B.fa, B.fb1, B.fb2, B.ra, B.r1, B.r2⟩
    exact k F2 _ ρ2 σ _ _ (e1.trans e2) ⟨a, b1, b2, _, _, m, S4.regz m B4, r1', r2'.set o2' kk, hj2⟩ q2
/-- a loop -/
def forM (j : Nat) (g : DG) (t : DM) (N : MS) : List DL.D → MS
  | [], ρ, x1, x2 => N ρ x1 x2
  | d :: ds, ρ, x1, x2 => g d ρ fun ρ' => ρ'[j]? = ρ[j]? ∧ t (forM j g t N ds) ρ' x1 x2
def dmFor (j : Nat) (i : DI) (g : DG) (t : DM) : DM := fun N ρ x1 x2 => i ρ fun ds ρ1 => ρ1[j]? = ρ[j]? ∧ forM j g t N ds ρ1 x1 x2
theorem pdm_for {tg : Expr} {g : TG} {dg : DG} {ti : TI} {di : DI} (hp : PassesOwn (model X.prog X.w) X.A X.env X.xe) (hc : X.calm = true) (hi : PDI X b tg e ti di) (hg : PDG X b tg g dg) (ht : PDMs X b j body ts t) (hs : ∀ x, foldedSetIterable e X.env x = pure x := by intro _; rfl) :
    PDM X b j (.For tg e body [] pos) (tFor ti g ts) (dmFor j di dg t) := by
  refine ⟨ps_for hp hc hi.pi hg.pg ht.ps hs, fun z hz N E F H ρ σ x1 x2 S q k => ?_⟩
  obtain ⟨a, b1, b2, v1, v2, m, S, r1, r2, hj⟩ := S.ex
  refine hi.dv _ (hz.gz m) F H ρ σ _ _ S q fun J H1 F1 ρ1 ds e1 S1 w q1 => ?_
  refine ⟨fun i n σ' H' => n = ds.length - i ∧ i ≤ ds.length ∧ ∃ F' ρ' y1 y2, Ex F1 F' ∧ StM z j F' H' ρ' σ' y1 y2 ∧ forM j dg t N (ds.drop i) ρ' y1 y2, ⟨ds.length, by simp, Nat.zero_le _, F1, ρ1, x1, x2, Ex.refl F1, ⟨a, b1, b2, v1, v2, m, S1, r1.mono e1, r2.mono e1, by rw [q1.1]; exact hj⟩, q1.2⟩, ?_⟩
  rintro i n σ' H' ⟨rfl, hil, F', ρ', y1, y2, e', S', q'⟩
  obtain ⟨a', c1, c2, w1, w2, m', S', s1, s2, hj'⟩ := S'.ex
  by_cases hlt : i < ds.length
  · refine .inr ⟨w.go i H' F' e' S'.fh hlt, fun σ2 H2 => ∃ F2 ρ2 y1 y2, Ex F1 F2 ∧ StM z j F2 H2 ρ2 σ2 y1 y2 ∧ forM j dg t N (ds.drop (i + 1)) ρ2 y1 y2, fun σ2 H2 h2 => ⟨ds.length - (i + 1), by omega, rfl, hlt, h2⟩, fun x H2 y => ?_⟩
    obtain ⟨e2, r⟩ := w.yld i H' F' x H2 _ e' S'.fh (List.getElem?_eq_getElem hlt) y
    subst e2
    rw [List.drop_eq_getElem_cons hlt] at q'
    refine hg.dv _ (hz.gz m') F' H2 ρ' σ' _ x _ _ S' r q' fun F3 H3 ρ3 σ3 e3 S3 q3 => ?_
    refine ht.dv z hz _ _ F3 H3 ρ3 σ3 y1 y2 ⟨a', c1, c2, w1, w2, m', S3, s1.mono e3, s2.mono e3, by rw [q3.1]; exact hj'⟩ q3.2 fun F4 H4 ρ4 σ4 z1 z2 e4 S4 q4 => ⟨F4, ρ4, z1, z2, (e'.trans e3).trans e4, S4, q4⟩
  · have e2 : i = ds.length := by omega
    subst e2
    rw [List.drop_length] at q'
    exact .inl ⟨w.stop _ H' F' e' S'.fh (Nat.le_refl _), k F' H' ρ' σ' y1 y2 (e1.trans e') ⟨a', c1, c2, w1, w2, m', S', s1, s2, hj'⟩ q'⟩
/-- such a list stands for good -/
theorem Sta.endM {z : Cz} {F H : Hp} {ρ : Ro} {σ : L2.St} {a b1 b2 : Addr} {v1 v2 : List V} {x1 x2 : List DL.D} (m : Mx z a b1 b2) (S : Sta z F H ρ σ) (B : Bare F H ρ σ a b1 b2 v1 v2) (r1 : RepL z.K F x1 v1) (r2 : RepL z.K F x2 v2) :
    ∃ F', Ex F F' ∧ Sta z F' H ρ σ ∧ Rep z.K F' (.lst [.lst x1, .lst x2]) (.ref a) := by
  have o1 : OwAt z.K F H b1 (.lst x1) := ⟨v1, B.hb1, r1⟩
  obtain ⟨p1, p2, p3, p4⟩ := frz_rep S.fh o1 B.fb1
  have S1 := S.frzA o1 B.fb1 m.h1 B.r1
  have no : ∀ {c d : Addr} {G : Hp} {vs : List V}, Ex G H → H c = some (.lst vs) → G c = some (.own d) → False := fun ex h h' => by
    have := ex _ _ h'
    rw [h] at this
    cases this
  have f2 : frz F H b1 b2 = none := by
    cases e : frz F H b1 b2 with
    | none => rfl
    | some u =>
      rcases p4 b2 u e m.n1 with h | h
      · rw [B.fb2] at h; cases h
      · subst h; exact (no p3 B.hb2 e).elim
  have f3 : frz F H b1 a = none := by
    cases e : frz F H b1 a with
    | none => rfl
    | some u =>
      rcases p4 a u e m.n2 with h | h
      · rw [B.fa] at h; cases h
      · subst h; exact (no p3 B.ha e).elim
  have o2 : OwAt z.K (frz F H b1) H b2 (.lst x2) := ⟨v2, B.hb2, r2.mono p2⟩
  obtain ⟨q1, q2, q3, q4⟩ := frz_rep S1.fh o2 f2
  have S2 := S1.frzA o2 f2 m.h2 B.r2
  have f4 : frz (frz F H b1) H b2 a = none := by
    cases e : frz (frz F H b1) H b2 a with
    | none => rfl
    | some u =>
      rcases q4 a u e m.n3 with h | h
      · rw [f3] at h; cases h
      · subst h; exact (no q3 B.ha e).elim
  have o3 : OwAt z.K (frz (frz F H b1) H b2) H a (.lst [.lst x1, .lst x2]) := ⟨_, B.ha, RepL.cons (Rep.mono q2 p1) (RepL.cons q1 (repL_nil.mpr rfl))⟩
  obtain ⟨w1, w2, w3, w4⟩ := frz_rep S2.fh o3 f4
  exact ⟨_, (p2.trans q2).trans w2, S2.frzA o3 f4 m.h3 B.ra, w1⟩
/-- x = [[..], [..]], what fills it, and what comes behind -/
def dMat (b : Bool) (j : Nat) (y1 y2 : List DL.D) (t : DM) (u : DS) : DS := fun D ρ => okB b j = true ∧ j < ρ.length ∧ ∀ a : Addr, t (fun ρ' x1 x2 => ρ'[j]? = some (.fr (.adr a)) ∧ u D (ρ'.set j (.fr (.lst [.lst x1, .lst x2])))) (ρ.set j (.fr (.adr a))) y1 y2
theorem set_at {σ : L2.St} {v : V} (h : σ[j]? = some (some v)) : σ.set j (some v) = σ := by
  apply List.ext_getElem?
  intro k
  by_cases e : k = j
  · subst e
    rw [List.getElem?_set_self (List.getElem?_eq_some_iff.mp h).1, h]
  · rw [List.getElem?_set_ne (Ne.symm e)]
theorem sta_ioN {z : Cz} {F H : Hp} {ρ : Ro} {σ : L2.St} {p : Addr} (S : Sta z F H ρ σ) (hp : H p = none) : z.io ≠ some p := fun e => by
  obtain ⟨o, g1, g2⟩ := S.ioz p e
  exact S.far hp 0 o g1 g2
theorem sta_f0N {z : Cz} {F H : Hp} {ρ : Ro} {σ : L2.St} {p : Addr} (S : Sta z F H ρ σ) (hp : H p = none) : z.F0 p = none := by
  cases e : z.F0 p with
  | none => rfl
  | some u => rw [S.fh _ _ (S.f0 _ _ e)] at hp; cases hp
theorem pdss_mat {x : Str} {i1 i2 i3 i4 : Int} {j1 j2 j3 j4} {st2 : Stmt} {u : DS} {q1 q2 q3 q4 q5 q6 q7 : Pos} (h2 : PDM X b j st2 ts t) (hr : PDSs X b rest us u) (hN : X.N.Nodup) (hi : X.N[j]? = some x := by rfl) (hx : Loc X.env.scope x := by first | exact Or.inl rfl | exact Or.inr rfl)
    (hf : X.fn x = true ∨ X.env.scope.names.lookup x = some .local := by first | exact .inl rfl | exact .inr rfl | assumption)
    (ha : PA X [.List [.Constant (.int i1) j1 q1, .Constant (.int i2) j2 q2] q5, .List [.Constant (.int i3) j3 q3, .Constant (.int i4) j4 q4] q6] (tCons (tLst (tCons (tC (.int i1)) (tCons (tC (.int i2)) tNil))) (tCons (tLst (tCons (tC (.int i3)) (tCons (tC (.int i4)) tNil))) tNil)) := by exact pa_cons (pe_lst (pa_cons pe_int (pa_cons pe_int pa_nil))) (pa_cons (pe_lst (pa_cons pe_int (pa_cons pe_int pa_nil))) pa_nil))
    (hs : swapsWith (.List [.List [.Constant (.int i1) j1 q1, .Constant (.int i2) j2 q2] q5, .List [.Constant (.int i3) j3 q3, .Constant (.int i4) j4 q4] q6] q7) (some (.Name x p)) pos.line X.env = pure false := by rfl) :
    PDSs X b (.Assign [.Name x p] (.List [.List [.Constant (.int i1) j1 q1, .Constant (.int i2) j2 q2] q5, .List [.Constant (.int i3) j3 q3, .Constant (.int i4) j4 q4] q6] q7) pos :: st2 :: rest)
      (tSeq (tAsg (tLst (tCons (tLst (tCons (tC (.int i1)) (tCons (tC (.int i2)) tNil))) (tCons (tLst (tCons (tC (.int i3)) (tCons (tC (.int i4)) tNil))) tNil))) (gName j)) (tSeq ts us)) (dMat b j [.int i1, .int i2] [.int i3, .int i4] t u) := by
  refine ⟨pss_cons (ps_set hN hi hx (pe_lst ha) hs hf) (pss_cons h2.ps hr.ps), fun z hz D E F H ρ σ S q L => ?_⟩
  obtain ⟨ok, hlt, q⟩ := q
  have hj := okS hz.2 ok
  refine ⟨sz_of (show 2 ≤ 100000 by decide), fun b1 n1 => ⟨sz_of (show 2 ≤ 100000 by decide), fun b2 n2 => ⟨sz_of (show 2 ≤ 100000 by decide), fun a n3 => ?_⟩⟩⟩
  have e21 : b2 ≠ b1 := fun e => by rw [e, upd_same] at n2; cases n2
  have e32 : a ≠ b2 := fun e => by rw [e, upd_same] at n3; cases n3
  have e31 : a ≠ b1 := fun e => by rw [upd_ne e32, e, upd_same] at n3; cases n3
  have S1 := S.newH n1 (.lst [.int i1, .int i2])
  have S2 := S1.newH n2 (.lst [.int i3, .int i4])
  have S3 := S2.newH n3 (.lst [.ref b1, .ref b2])
  have m : Mx z a b1 b2 := ⟨e21, e31, e32, sta_f0N S n1, sta_f0N S1 n2, sta_f0N S2 n3, S.h0 n1, S1.h0 n2, S2.h0 n3, sta_ioN S n1, sta_ioN S1 n2, sta_ioN S2 n3⟩
  have B : Bare F (upd (upd (upd H b1 (.lst [.int i1, .int i2])) b2 (.lst [.int i3, .int i4])) a (.lst [.ref b1, .ref b2])) ρ σ a b1 b2 [.int i1, .int i2] [.int i3, .int i4] :=
    ⟨upd_same, by rw [upd_ne (Ne.symm e31), upd_ne (Ne.symm e21), upd_same], by rw [upd_ne (Ne.symm e32), upd_same], S2.fz n3, S.fz n1, S1.fz n2, S2.far n3, S.far n1, S1.far n2⟩
  have S4 := S3.regz m B
  have S5 := S4.putF (j := j) (v := .ref a) (d := .adr a) (rep_adr.mpr rfl) hj
  have rI : ∀ i k : Int, RepL z.K F [DL.D.int i, .int k] [V.int i, .int k] := fun i k => RepL.cons (rep_int.mpr rfl) (RepL.cons (rep_int.mpr rfl) (repL_nil.mpr rfl))
  refine h2.dv z hz _ _ F _ _ _ _ _ ⟨a, b1, b2, _, _, m, S5, rI i1 i2, rI i3 i4, List.getElem?_set_self hlt⟩ (q a) fun F' H' ρ' σ' y1 y2 e S' q' => ?_
  obtain ⟨a', c1, c2, w1, w2, m', S', s1, s2, hj'⟩ := S'.ex
  have ea : a' = a := by
    rw [q'.1] at hj'
    cases hj'
    rfl
  subst ea
  obtain ⟨S6, B6⟩ := S'.ungz m'
  obtain ⟨F7, e7, S7, r7⟩ := S6.endM m' B6 s1 s2
  have va := adr_at S6 q'.1
  have S8 := S7.putF (j := j) r7 hj
  rw [set_at va] at S8
  exact hr.dv z hz D E F7 H' _ σ' S8 q'.2 (L.mono (e.trans e7))
end
end DL
end
section
set_option Elab.async false
set_option linter.all false
set_option maxRecDepth 100000
set_option maxHeartbeats 4000000
/-! DL16: an own exception (TooLarge) whose __init__ says super().__init__(text) and stores one field: made, raised, caught. (The parts that make it began as lines of the worked proof 42_own_error_by_import.) -/
namespace TLX
open PySem PySem.W PySem.Calls PyProof.Rows PySem.HandSPX
/-- what the written part says of TooLarge, at C, and of its __init__, at fI -/
structure TLTxt (prog : Program) (K : Frag) (mg : Str → Option Value) (C fI : Addr) : Prop where
  gC : mg "TooLarge" = some (.ref C)
  cls : ∃ nm q N bs bm sn sub ab col dd k0 k1 k2 k3 k5, K.lookup C = some (excClassObj nm q C N bs bm true sn sub ab col dd k0 k1 k2 k3 k5 "ValueError.__new__") ∧ refsVE bm = true
  sa : findIn K (.ref C) "__setattr__" = some (some (.builtin "object.__setattr__"))
  ga : findIn K (.ref C) "__getattribute__" = some (some (.builtin "BaseException.__getattribute__"))
  gg : findIn K (.ref C) "__getattr__" = some none
  noN : findIn K (.ref C) "what" = some none
  iC : findIn K (.ref C) "__init__" = some (some (.ref fI))
  tC : typeIn K (.ref fI) = some (.type "function")
  kC : keepIn K (.ref C) = true
  exC : subIn K (.ref C) (.type "BaseException") = some true
  veC : subIn K (.ref C) (.type "ValueError") = some true
  tyC : typeIn K (.ref C) = some (.type "type")
  hdC : hasDictIn K C = true
  te : exmOne K (.ref C) (.ref C) = some true
  own : mroIn K C (.ref C) = some true
  third : nsIn K cStatics "thirdparty.any" = some none
  sup : ks_superIn K C C "__init__" = some (some (.builtin "ValueError.__init__"))
  msup : mg "super" = none
  fn : ∃ (oc : Value) (od : Option Addr) (doc pm : Value) (an : Option Addr) (cda cc : Addr) (ct : Value) (osl : Array (Option Value)) (params : Arguments) (body : List Stmt) (scope : Scope),
    K.lookup fI = some ⟨oc, od, .func (ksFn "__init__" "TooLarge.__init__" params body scope .none .none doc pm an (.ref cda) ct cc), osl⟩ ∧ codeIn K (.ref cda) "TooLarge.__init__" = true ∧
    (∃ a1 a2 p1 p2, params = { posonlyargs := [], args := [{ arg := "self", annotation := none, pos := p1 }, { arg := "what", annotation := none, pos := p2 }], vararg := none, kwonlyargs := [], kw_defaults := [], kwarg := none, defaults := [] } ∧ a1 = 0 ∧ a2 = 0) ∧
    (∃ (m : Str) (j : Nat) (p1 p2 p3 p4 p5 p6 q1 q2 q3 q4 : Pos), body = [.Expr (.Call (.Attribute (.Call (.Name "super" p1) [] [] p2) "__init__" p3) [.Constant (.str m) j p4] [] p5) p6, .Assign [.Attribute (.Name "self" q1) "what" q2] (.Name "what" q3) q4] ∧ (p3.endLine == p5.line) = true) ∧
    scope = { kind := .function, names := [("self", .local), ("what", .local), ("__class__", .free), ("super", .globalImplicit)], isGenerator := false, isCoroutine := false, more := [] } ∧
    (∃ ccl cdd ccs vs file tf, K.lookup cda = some ⟨ccl, cdd, .fields vs, ccs⟩ ∧ vs[2]? = some (.str file tf) ∧ ((prog.main.file : Str) == file) = true) ∧
    ∃ cl cld csl, K.lookup cc = some ⟨cl, cld, .cell (some (.ref C)), csl⟩
  top : (prog.main.scope.names.lookup ("super" : Str)).isSome = false
structure InitEnd (h h' : Heap) (x C dx t1 : Addr) (v : Value) : Prop where
  keep : ∀ b o, b ≠ x → h.get? b = some o → h'.get? b = some o
  obj : h'.get? x = some { cls := .ref C, dict := some dx, data := .fields #[.ref t1, .none, .none, .none, .bool false, .none] }
  dbig : h.objs.size ≤ dx
  dne : dx ≠ x
  ns : h'.Ns1 dx (fun y => if y = "what" then some v else none)
/-- a made TooLarge -/
structure OwnMade (h h' : Heap) (e C d : Addr) (v : Value) : Prop where
  keep : ∀ b o, h.get? b = some o → h'.get? b = some o
  new : h.objs.size ≤ e
  obj : ∃ oe vs, h'.get? e = some oe ∧ oe.cls = .ref C ∧ oe.dict = some d ∧ oe.data = .fields vs ∧ vs[1]? = some .none
  dbig : h.objs.size ≤ d
  dne : d ≠ e
  ns : h'.Ns1 d (fun y => if y = "what" then some v else none)
theorem one_size (v : Value) : [v].length ≤ sizeLine := by
  rw [sizeLine_eq]
  exact (by decide : 1 ≤ 16777216)
section
variable {prog : Program} {w : World} {A : Around} {E : Value → Shared → Prop} {R : Result → Shared → Prop} {s : Shared} {K : Frag} {mg : Str → Option Value} {C fI : Addr}
/-- super().__init__(..), the bound thing called -/
theorem call_mw {x u t0 : Addr} {rest : List Value} {Q : Value → Shared → Prop} (X : K.In s.heap) (q : excInitIn K C veTail "ValueError.__new__" = true) (hu : s.heap.get? u = some (kxs_mw "ValueError.__init__" x)) (he : s.heap.get? x = some (excO C t0)) (hz : rest.length ≤ sizeLine)
    (h : ∀ t' h', (∀ b o, b ≠ x → s.heap.get? b = some o → h'.get? b = some o) → h'.get? x = some (excO C t') → Q .none { s with heap := h' }) : wpAny (model prog w) A (call (.ref u) rest) Q E s := by
  obtain ⟨nm, N', qn, bs, bm, hdct, sn, sub, ab, col, dd, k0, k1, k2, k3, k5, hC, hT⟩ := excInit_of X q
  obtain ⟨hh, g, d, tk, os⟩ := s
  refine wpAny_call (codeAny_of_tree ?_)
  show wpAny _ A.in1 (callAny (.ref u) ⟨rest, []⟩) _ _ _
  simp only [callAny]
  refine wpAny_bind (wpAny_load hu ?_)
  simp only [kxs_mw, show (Value.type "method-wrapper" == Value.type "method" || Value.type "method-wrapper" == Value.type "builtin_function_or_method" || Value.type "method-wrapper" == Value.type "method-wrapper") = true by decide, if_true]
  refine KFB.if_so (by decide) ?_
  refine wpAny_bind (check_bound_init F.excBase_ValueError.toExcCallFacts hC he rfl ?_)
  refine wpAny_bind (wpAny_pure (wpAny_pure ?_))
  refine ⟨plainId_quiet F.excBase_ValueError.init.plain _, codeAny_builtin F.excBase_ValueError.initEntry ?_⟩
  exact exc_init_tree (cls := .ref C) (t0 := t0) (dv := none) (c2 := .none) (c3 := .none) (b4 := .bool false) he hz fun h' k e' t' => h _ h' k e'
theorem meth_eq {o : Expr} {name : Str} {apos pos : Pos} {e : Expr} {env : Env} (h : (apos.endLine == pos.line) = true) (hs : starEach [e] env = [(false, eval e env)] := by rfl) :
    eval (.Call (.Attribute o name apos) [e] [] pos) env = (do
      let ov ← attributeBase o name env (eval o env)
      standAt apos.atName
      let (f, first) ← holding [ov] (getMethod ov name (do return (← importBound o env).getD true))
      callWith pos f first (backTo pos (starEach [e] env)) []) := by
  have e1 : methodCallPos true o env apos pos = pure pos := by
    unfold methodCallPos
    rw [h]
    rfl
  have e2 : methodCallForm 1 (backTo pos (starEach [e] env)) [] = true := by rw [hs]; rfl
  show (do
    let ov ← attributeBase o name env (eval o env)
    standAt apos.atName
    let (f, first) ← holding [ov] (calleeOf (methodCallForm 1 (backTo pos (starEach [e] env)) []) o env ov name)
    let callPos ← methodCallPos (methodCallForm 1 (backTo pos (starEach [e] env)) []) o env apos pos
    callWith callPos f first (backTo pos (starEach [e] env)) []) = _
  rw [e2, e1]
  rfl
theorem tl_init (T : TLTxt prog K mg C fI) {x t0 : Addr} {v : Value} (X : K.In s.heap) (hlim : s.heap.NoLimit) (hg : s.heap.Ns mainGlobals mg) (hb : ∃ mb, s.heap.Ns builtinsNs mb ∧ ∀ y : Str, y ≠ "__name__" → mb y = bootBuiltins y)
    (q : excInitIn K C veTail "ValueError.__new__" = true) (hx : s.heap.get? x = some (excO C t0)) (hnx : K.lookup x = none) (hroom : A.depth < recursionLimit)
    (hq : ∀ h' tk dx t1, InitEnd s.heap h' x C dx t1 v → R (.ok (.ret .none)) { s with heap := h', toks := tk }) : codeAny (model prog w) A (.call (.ref fI) ⟨[.ref x, v], []⟩) R s := by
  obtain ⟨oc, od, doc, pm, an, cda, cc, ct, osl, params, body, scope, lk, hcd, ⟨_, _, p1, p2, rfl, _, _⟩, ⟨m, j, r1, r2, r3, r4, r5, r6, q1, q2, q3, q4, rfl, hline⟩, rfl, ⟨ccl, cdd, ccs, vs, file, tf, lcd, hvs, hfile⟩, cl, cld, csl, lcc⟩ := T.fn
  obtain ⟨nm, qn, N, bs, bm, sn, sub, ab, col, dd, k0, k1, k2, k3, k5, hC, hbm⟩ := T.cls
  have hcl : clsIn K C = some { name := nm, bases := bs, mro := .ref C :: bm, ns := N, qualname := qn, hasDict := true, slotNames := sn, subclasses := sub, abstract := ab, collection := col, hasDel := false } := by unfold clsIn; rw [hC] <;> rfl
  obtain ⟨mb, hmb, hbb⟩ := hb
  obtain ⟨hp, g, dr, tk, os⟩ := s
  refine ks_codeAny_call_defAt (binds := [("self", .ref x), ("what", v)]) hroom (X _ _ lk) rfl hlim (codeRec_of X hcd) rfl (BindsTo.of_eq (by first | rfl | with_unfolding_all rfl)) (by
    intro y hy
    have hy : y ∈ [(("self" : Str), NameKind.local), (("what" : Str), .local), (("__class__" : Str), .free), (("super" : Str), .globalImplicit)] := hy
    simp only [List.mem_cons, List.not_mem_nil, or_false] at hy
    rcases hy with e | e | e | e <;> subst e <;> decide) (by
    intro y hy
    rcases List.mem_cons.mp hy with e | hy
    · subst e; rfl
    · rcases List.mem_cons.mp hy with e | hy
      · subst e; rfl
      · cases hy) (fun h₀ hns k => ?_)
  have X₀ : K.In h₀ := Frag.In.keeps X k
  have hx₀ := k _ _ hx
  have xL : hp.objs.size ≠ x := Nat.ne_of_gt (Heap.lt_size hx)
  refine ks_wpAt_execs_cons (ks_wpAt_Expr_any (ks_wpAt_MethodCall ?_ (meth_eq hline)))
  refine ks_wpAt_super_base (env := ksEnv "TooLarge.__init__" _ hp.objs.size fI (.ref cda) cc) rfl rfl rfl rfl (X₀ _ _ lk) rfl rfl rfl (X₀ _ _ lcd) rfl hvs hfile T.top ?_
  refine ks_loadName_global rfl rfl (loadGlobal_builtin (env := ksEnv "TooLarge.__init__" _ hp.objs.size fI (.ref cda) cc) (hg.keeps k) T.msup (hmb.keeps k) ((hbb _ (by decide +kernel)).trans (by decide +kernel : bootBuiltins "super" = some (.type "super"))) ⟨rfl, ?_⟩)
  refine wpAny_loadName_free rfl rfl rfl ⟨_, X₀ _ _ lcc, rfl⟩ ?_
  refine wpAny_loadName_local (v := .ref x) rfl rfl hns (by first | rfl | with_unfolding_all rfl) ?_
  refine ks_wpAny_isType_cls (X₀ _ _ hC) rfl ⟨rfl, ?_⟩
  refine ks_wpAny_call_super (X₀ _ _ hC) rfl hx₀ rfl (fun c e => by cases e) (looks_mroIn X₀ T.own) (fun h1 e1 k1 => ?_)
  have X₁ : K.In h1 := Frag.In.keeps X₀ k1
  have hx₁ := k1 _ _ hx₀
  have hsup := T.sup
  unfold ks_superIn at hsup
  rw [hcl] at hsup
  have I₁ : InstAt h1 x (excO C t0) C none := ⟨hx₁, rfl, rfl, trivial⟩
  have hI : Looks (model prog w) h1 (isInstance (.ref x) (.type "ValueError")) true := I₁.type.andThen (looks_subIn X₁ T.veC)
  refine kxs_getMethod kxs_ValueError e1 (looks_opaque X₁ T.third) (l₀ := .ref C :: bm) ((looks_clsIn X₁ hcl).andThen .now) rfl X₁ hsup hI (ks_ne X₁ I₁ hcl) rfl ?_
  have X₂ : K.In (h1.push (kxs_mw "ValueError.__init__" x)) := Frag.In.keeps X₁ fun b o e => Heap.get?_push_of_some _ e
  have hx₂ : (h1.push (kxs_mw "ValueError.__init__" x)).get? x = some (excO C t0) := Heap.get?_push_of_some _ hx₁
  have hu : (h1.push (kxs_mw "ValueError.__init__" x)).get? h1.objs.size = some (kxs_mw "ValueError.__init__" x) := Heap.get?_push_size _ rfl
  have lt0 : hp.objs.size < h₀.objs.size := hns.lt
  have lt1 : h₀.objs.size ≤ h1.objs.size := by
    exact Nat.le_of_lt (Heap.lt_size e1)
  have N2 : News hp hp.objs.size (h1.push (kxs_mw "ValueError.__init__" x)) [(h1.objs.size, kxs_mw "ValueError.__init__" x)] := fun p hpm => by
    have e : p = (h1.objs.size, kxs_mw "ValueError.__init__" x) := by simpa using hpm
    subst e
    refine ⟨hu, show h1.objs.size ≠ hp.objs.size by omega, ?_⟩
    cases z : hp.get? h1.objs.size with
    | none => rfl
    | some o =>
      have zz : h1.objs.size < hp.objs.size := Heap.lt_size z
      omega
  refine kxs_callWith1 (i := "ValueError.__init__") (x := x) N2 (by simp) (PyProof.Rows.args_cons (Calls.Constant_str (PyProof.Rows.args_nil ⟨hu, ?_⟩)) rfl) rfl rfl
  refine call_mw (t0 := t0) X₂ q hu hx₂ (one_size _) fun t' h3 k3 hx₃ => ?_
  have kk : ∀ b o, b ≠ x → h₀.get? b = some o → h3.get? b = some o := fun b o hb e => k3 b o hb (Heap.get?_push_of_some _ (k1 b o e))
  have X₃ : K.In h3 := fun a o e => by
    refine kk a o (fun z => ?_) (X₀ _ _ e)
    rw [z, hnx] at e
    cases e
  obtain ⟨oL, es, ep, hL, rL⟩ := hns
  have hns₃ : h3.Ns hp.objs.size _ := ⟨oL, es, ep, kk _ _ xL hL, rL⟩
  refine wpAt_of_wpAny (wpAny_execs_cons (plainObj_wpAny_Assign_Attribute ?_))
  refine wpAny_Name (wpAny_loadName_local (v := v) rfl rfl hns₃ (by first | rfl | with_unfolding_all rfl) ?_) rfl
  refine wpAny_Name (wpAny_loadName_local (v := .ref x) rfl rfl hns₃ (by first | rfl | with_unfolding_all rfl) ?_) rfl
  refine set_plain X₃ (ox := excO C t') (od := none) ⟨hx₃, rfl, rfl, trivial⟩ T.sa ?_
  refine exc_osa X₃ hx₃ hcl (show refsVE (.ref C :: bm) = true from hbm) rfl T.noN (fun h₄ tk₄ dx k₄ dn dne hx₄ hn₄ => ?_)
  have z3 : hp.objs.size < h3.objs.size := Heap.lt_size (kk _ _ xL hL)
  exact wpAny_execs_nil (hq h₄ tk₄ dx t' ⟨fun b o hb e => k₄ b o hb (kk b o hb (k b o e)), hx₄, Nat.le_of_lt (Nat.lt_of_lt_of_le z3 dn), dne, hn₄⟩)
theorem tl_made (T : TLTxt prog K mg C fI) {v : Value} (X : K.In s.heap) (hlim : s.heap.NoLimit) (hgl : s.heap.Ns mainGlobals mg) (hbl : ∃ mb, s.heap.Ns builtinsNs mb ∧ ∀ y : Str, y ≠ "__name__" → mb y = bootBuiltins y) (qx : excInitIn K C veTail "ValueError.__new__" = true) (hroom : A.depth + 1 < recursionLimit)
    (hq : ∀ h' tk e d, OwnMade s.heap h' e C d v → R (.ok (.ret (.ref e))) { s with heap := h', toks := tk }) :
    codeAny (model prog w) A (.call (.ref C) ⟨[v], []⟩) R s := by
  obtain ⟨nm, q, N, bs, bm, sn, sub, ab, col, dd, k0, k1, k2, k3, k5, hC, hbm⟩ := T.cls
  obtain ⟨hp, g, dr, tk, os⟩ := s
  have k : ∀ b o, hp.get? b = some o → ((hp.push (kdv_tup [v])).push (excO C hp.objs.size)).get? b = some o := fun b o e => Heap.get?_push_of_some _ (Heap.get?_push_of_some _ e)
  have hget : ((hp.push (kdv_tup [v])).push (excO C hp.objs.size)).get? (hp.objs.size + 1) = some (excO C hp.objs.size) := by heap_get
  have hnx : K.lookup (hp.objs.size + 1) = none := by
    cases e : K.lookup (hp.objs.size + 1) with
    | none => rfl
    | some o =>
      have z : hp.get? (hp.objs.size + 1) = some o := X _ _ e
      exact absurd (Nat.lt_of_succ_lt (Heap.lt_size z)) (Nat.lt_irrefl _)
  refine call_own F.excBase_ValueError (fun X => refsVE_contains X bm hbm) (X _ _ hC) (looks_findIn X T.iC) (fun self => bind_fn X self T.tC) (one_size v) ?_
  refine tl_init (s := ⟨(hp.push (kdv_tup [v])).push (excO C hp.objs.size), g, dr, tk, os⟩) T (X.keeps k) (hlim.keeps k) (hgl.keeps k) (hbl.imp fun mb z => ⟨z.1.keeps k, z.2⟩) qx hget hnx ?_ fun h' tk' dx t1 ⟨k', hx, dn, dne, hns⟩ => ?_
  · show A.depth + 1 < recursionLimit
    exact hroom
  · have old : ∀ b o, hp.get? b = some o → h'.get? b = some o := fun b o e => k' b o (Nat.ne_of_lt (Nat.lt_succ_of_lt (Heap.lt_size e))) (k b o e)
    have z : hp.objs.size + 1 + 1 ≤ dx := by
      first
        | (simpa only [Heap.size_push] using dn)
        | exact dn
        | (have q := dn; rw [Heap.size_push, Heap.size_push] at q; exact q)
    exact ⟨rfl, hq h' tk' (hp.objs.size + 1) dx ⟨old, Nat.le_succ _, ⟨_, _, hx, rfl, rfl, rfl, rfl⟩, Nat.le_trans (Nat.le_trans (Nat.le_succ _) (Nat.le_succ _)) z, dne, hns⟩⟩
end
end TLX
namespace L2
open PySem PySem.Spec PyProof.Rows
theorem relO_tl {v : V} {v' : Value} (r : RelV v v') (f : Str) : RelO (List.lookup f [(("what" : Str), v)]) (if f = "what" then some v' else none) := by
  by_cases hw : f = "what"
  · subst hw
    rw [if_pos rfl]
    have q : List.lookup ("what" : Str) [(("what" : Str), v)] = some v := by simp [List.lookup]
    rw [q]
    exact r
  · rw [if_neg hw]
    have qw : (f == ("what" : Str)) = false := by simpa using hw
    have q2 : List.lookup f [(("what" : Str), v)] = none := by simp [List.lookup, qw]
    rw [q2]
    trivial
section
variable {X : Cx} {C fI : Addr}
/-- TooLarge(e) -/
def tMkTL (C : Addr) (ta : TA) : St → Hp → XK → Prop := fun σ H Q => ta σ H fun vs H1 => ∃ v, vs = [v] ∧ ∀ d, H1 d = none → Q (.ref C) (some d) (upd H1 d (.xd [(("what" : Str), v)]))
theorem pmk_tl {a : Expr} {ta : TA} {p pos : Pos} {k : Nat} (T : TLX.TLTxt X.prog X.K X.mg C fI) (qx : PySem.W.excInitIn X.K C PySem.HandSPX.veTail "ValueError.__new__" = true) (hr : Room k X.A) (ha : PA X [a] ta) (hg : Gl X "TooLarge" := by rfl)
    (he : starEach (a :: []) X.env = (false, eval a X.env) :: starEach [] X.env := by rfl) (hpl : (backTo pos (starEach [] X.env)).any (·.1) = false := by rfl) :
    PMk X (.Call (.Name "TooLarge" p) [a] [] pos) (tMkTL C ta) := by
  intro pins s σ H Q I h
  refine wpAny_Call_Name_kw (ld_glob I hg T.gC ?_)
  refine PySem.W.callWith_K (h₀ := X.base) I.ok.mod.kin T.kC (thn (ha.run pos pins s σ H _ I h) fun us s1 hh => ?_) he hpl
  obtain ⟨vs, H1, I1, r1, v, ev, q1⟩ := hh
  subst ev
  refine ⟨I1.kIn, ?_⟩
  cases r1 with
  | cons rv rn =>
    rename_i v' us'
    cases rn
    show wpAny _ _ (call (.ref C) [v']) _ _ _
    have hlim := I1.nolimit
    obtain ⟨hp, g, dr, tk, os⟩ := s1
    refine wpAny_call (TLX.tl_made T I1.kIn hlim (I1.mod.glob.keeps I1.bk) (I1.mod.blt.imp fun mb z => ⟨z.1.keeps I1.bk, z.2⟩) qx (by have := hr.dp; omega) fun h' tk' e d M => ?_)
    show MkP X pins σ Q (.ref e) ⟨h', g, dr, tk', os⟩
    obtain ⟨oe, fv, hoe, hc, hd, hdat, h1⟩ := M.obj
    have hns := M.ns
    obtain ⟨G', g1, g2⟩ := restrict h' fun b => decide (b ≠ e)
    have gk : ∀ b, b ≠ e → G'.get? b = h'.get? b := fun b hb => g1 b (decide_eq_true hb)
    have ge : G'.get? e = none := g2 e (by simp)
    have old : ∀ b o, hp.get? b = some o → G'.get? b = some o := fun b o q => (gk b (Nat.ne_of_lt (Nat.lt_of_lt_of_le (Heap.lt_size q) M.new))).trans (M.keep b o q)
    have ob : ObjOk X.prog X.w (upd H1 d (.xd [(("what" : Str), v)])) G' d (.xd [(("what" : Str), v)]) :=
      ⟨_, hns.at (fun o q => (gk d M.dne).trans q), fun f => relO_tl rv f⟩
    have J : Inv X pins σ (upd H1 d (.xd [(("what" : Str), v)])) ⟨G', g, dr, tk', os⟩ := I1.laid (t' := tk') old M.dbig ob
    refine ⟨e, oe, fv, ⟨G', g, dr, tk', os⟩, _, .ref C, some d, rfl, J, fun b o q => ?_, ge, hoe, ⟨hc, hd⟩, hdat, h1, ?_, rfl, I1.bare, raises_own T.exC T.tyC, q1 d (I1.hok.fresh M.dbig)⟩
    · by_cases hb : b = e
      · have q' : G'.get? b = some o := q
        rw [hb, ge] at q'; cases q'
      · exact (gk b hb).symm.trans q
    · rw [upd_ne (Ne.symm M.dne)]
      exact I1.hok.fresh M.new
/-- raise TooLarge(e) -/
def tRaiseTL (C : Addr) (W : WX) (ta : TA) : TS := fun _ σ H => tMkTL C ta σ H fun cls d H' => W cls d σ H'
theorem ps_raiseTL {a : Expr} {ta : TA} {W : WX} {p pos pos2 : Pos} {k : Nat} (hc : X.calm = true) (T : TLX.TLTxt X.prog X.K X.mg C fI) (qx : PySem.W.excInitIn X.K C PySem.HandSPX.veTail "ValueError.__new__" = true) (hr : Room k X.A) (tk : Takes X W) (ha : PA X [a] ta) (hg : Gl X "TooLarge" := by rfl)
    (he : starEach (a :: []) X.env = (false, eval a X.env) :: starEach [] X.env := by rfl) (hpl : (backTo pos (starEach [] X.env)).any (·.1) = false := by rfl) :
    PS X (.Raise (some (.Call (.Name "TooLarge" p) [a] [] pos)) none pos2) (tRaiseTL C W ta) := ps_raise hc tk (pmk_tl T qx hr ha hg he hpl)
/-- fault.what, fault the exception that the suite holds (at a; its class cls, its dict d) -/
def tWhat (C : Addr) (a : Addr) (cls : Value) (d : Option Addr) (te : TE) : TE := fun σ H Q => te σ H fun x H1 => x = .ref a ∧ cls = .ref C ∧ ∃ (dd : Addr) (v : V), d = some dd ∧ H1 dd = some (.xd [(("what" : Str), v)]) ∧ Q v H1
theorem pe_what {a : Addr} {oe : Obj} {cls : Value} {d : Option Addr} {pn : List (Addr × Obj)} {e : Expr} {te : TE} {pos : Pos} (T : TLX.TLTxt X.prog X.K X.mg C fI) (hz : Zc cls d oe) (hf : ∃ vs, oe.data = .fields vs) (he : PE (X.suite a ((a, oe) :: pn)) e te)
    (hb : attributeBase e "what" X.env (eval e X.env) = eval e X.env := by rfl) :
    PE (X.suite a ((a, oe) :: pn)) (.Attribute e "what" pos) (tWhat C a cls d te) := by
  refine ⟨fun pins s σ H Q I h => ?_⟩
  refine attr_of hb (thn (he.run pins s σ H _ I h) fun u s1 hh => ?_)
  obtain ⟨x, H1, I1, rx, ex, ec, dd, v, ed, ea, q⟩ := hh
  subst ex
  obtain rfl : u = Value.ref a := rx
  subst ec
  subst ed
  obtain ⟨ha, _⟩ := I1.pin (a, oe) (List.mem_append_left _ List.mem_cons_self)
  obtain ⟨vs, hd⟩ := hf
  have hx : ObjOk X.prog X.w H1 s1.heap dd (.xd [(("what" : Str), v)]) := I1.hok dd _ ea
  obtain ⟨mA, hns, hr⟩ := hx
  obtain ⟨od, ho, hl⟩ := lookIn_ns hns
  have l : List.lookup ("what" : Str) [(("what" : Str), v)] = some v := by simp [List.lookup]
  obtain ⟨u, hu, ru⟩ := RelO.some_of (v := v) (o := mA "what") (by rw [← l]; exact hr "what")
  have J : PySem.W.InstAt s1.heap a oe C (some od) := ⟨ha, hz.1, by unfold PySem.W.notCls; rw [hd] <;> rfl, by rw [hz.2]; exact ho⟩
  exact HandSPX.exc_get I1.kIn J T.ga T.gg T.exC (PySem.W.findObj_own T.hdC T.noN rfl (by rw [hl, hu])) (handed_of ru) ⟨v, H1, I1.tok _, ru, q⟩
end
end L2
end
section
set_option Elab.async false
set_option linter.all false
set_option maxRecDepth 100000
set_option maxHeartbeats 4000000
/-! DL17: defs that may raise TooLarge("figures"), by data; their calls; the try around one. -/
namespace DL
open PySem PySem.Spec PyProof.Rows L2 Evl
abbrev figs : Str := "figures"
/-- the class TooLarge, at C -/
structure TLO (P : Program) (K : Fr) (mg : Str → Option Value) (C : Addr) : Prop where
  ex : ∃ fI, TLX.TLTxt P K mg C fI
  qx : PySem.W.excInitIn K C PySem.HandSPX.veTail "ValueError.__new__" = true
/-- a contract of a def that may raise it: no result -/
structure CtX where
  α : Type
  args : α → List D
  pre : α → Prop
  res : α → Option Res
def CtX.sp (K : Fr) (C : Addr) (c : CtX) : Sp := fun vs H Q E => ∃ (F : Hp) (a : c.α), Ex F H ∧ RepL K F (c.args a) vs ∧ c.pre a ∧
  (∀ r, c.res a = some r → ∀ v H' F', Ex H H' → Ex F F' → Ex F' H' → New F F' H → ResR K F' H H' v r → Q v H') ∧
  (c.res a = none → ∀ H' d, Ex H H' → H' d = some (.xd [(("what" : Str), .str figs)]) → E (.ref C) (some d) H')
/-- what is wanted where it leaves the def -/
def WD (X : Cx) (C : Addr) (W : WX) : Prop := ∀ (H' : Hp) (d : Addr) (σ : L2.St), Ex X.H_0 H' → H' d = some (.xd [(("what" : Str), .str figs)]) → W (.ref C) (some d) σ H'
section
variable {X : Cx} {C fI : Addr} {W : WX} {p p2 pos pos2 : Pos} {j k : Nat}
theorem Sta.base {z : Cz} {F H : Hp} {ρ : Ro} {σ : L2.St} (S : Sta z F H ρ σ) (h : z.io = none) : Ex z.H0 H := fun a o e => S.kp a o e (by rw [h]; exact fun z => nomatch z)
theorem At.io0 {z : Cz} (hz : At X false z) : z.io = none := by
  cases e : z.io with
  | none => rfl
  | some a =>
    have := hz.2
    rw [e] at this
    cases this
theorem pds_raiseTL (O : TLO X.prog X.K X.mg C) (tk : Takes X W) (hr : Room k X.A) (hc : X.calm = true := by rfl) (hg : Gl X "TooLarge" := by rfl) :
    PDS X false (.Raise (some (.Call (.Name "TooLarge" p) [.Constant (.str figs) j p2] [] pos)) none pos2) (tRaiseTL C W (tCons (tC (.str figs)) tNil)) (fun _ _ => WD X C W) := by
  obtain ⟨fI, T⟩ := O.ex
  refine ⟨ps_raiseTL hc T O.qx hr tk (pa_cons pe_str pa_nil) hg, fun z hz D E F H ρ σ S q L => ⟨_, rfl, fun d hd => q _ d σ ?_ upd_same⟩⟩
  exact (hz.3.trans (S.base hz.io0)).trans (Ex.new hd)
end
/-- the context of a raising def's body -/
abbrev cxX (P : Program) (w : World) (K : Fr) (mg : Str → Option Value) (base : Heap) (N : List Str) (qual : Str) (scope : Scope) (f : Addr) (cdv : Value) (A : Around) (outer : List Env) (s : Shared) (H : Hp) (E : XK) : Cx := cxOf (L2.CX P w) P w K mg base N qual scope f cdv A outer s H E
abbrev wE (E : XK) : WX := fun cls d _ H => E cls d H
abbrev dEndsX (r : Option Res) : DEnds := { nx := fun _ => r = some (.fr .non), rt := fun r' ρ => ∃ q, r = some q ∧ back false ρ r' q }
section
variable {P : Program} {w : World} {K : Fr} {mg : Str → Option Value} {base : Heap} {x qual : Str} {params : Arguments} {body : List Stmt} {scope : Scope} {dvs : List V} {f C : Addr} {fd : FuncData} {N ps : List Str} {k : Nat}
theorem ctx_ok {c : CtX} (F : FunD K x qual params body scope dvs [] f fd) (S : FnScope N ps scope) (hl : ∀ a, (c.args a).length = ps.length)
    (hb : ∀ (cdv : Value) (A : Around) (outer : List Env) (s : Shared) (H : Hp) (E : XK), Room k (A.deeper (envOfC qual scope s.heap.objs.size f cdv)) →
      ∃ ts t, PDSs (cxX P w K mg base N qual scope f cdv A outer s H E) false body ts t ∧ ∀ a, c.pre a → (c.res a = none → WD (cxX P w K mg base N qual scope f cdv A outer s H E) C (wE E)) → t (dEndsX (c.res a)) (args0 N.length (c.args a))) :
    FnOk P w K mg base (L2.CX P w) (k + 1) f fd ps (c.sp K C) := by
  refine F.ok S (fun vs H Q E h => ?_) fun cdv A outer s H vs Q E hr h => ?_
  · obtain ⟨F, a, _, r, _⟩ := h
    rw [← r.length, hl a]
  · obtain ⟨F, a, ex, r, hp, kk, ke⟩ := h
    obtain ⟨ts, t, hd, ht⟩ := hb cdv A outer s H E hr
    refine ⟨ts, hd.ps, ?_⟩
    have S0 := sta0 (K := K) (n := N.length) ex r
    refine hd.dv ⟨K, F, H, none⟩ ⟨rfl, rfl, Ex.refl _⟩ _ _ F H _ _ S0 (ht a hp fun e H' d σ h1 h2 => ke e H' d h1 h2) ⟨fun F' H' ρ' σ' e S' q => ?_, fun v F' H' ρ' σ' r' e S' o q => ?_, fun _ _ _ _ _ _ q => q.elim, fun _ _ _ _ _ _ q => q.elim⟩
    · refine kk _ q .non H' F' (fun a o h => S'.kp a o h (fun z => nomatch z)) S'.f0 S'.fh (fun a o h => S'.nw a o h) ?_
      exact (rep_non (K := K) (F := F')).mpr rfl
    · obtain ⟨q1, e1, q2⟩ := q
      exact kk _ e1 v H' F' (fun a o h => S'.kp a o h (fun z => nomatch z)) S'.f0 S'.fh (fun a o h => S'.nw a o h) (back_ok (b := false) rfl S' o q2)
end
/-- a global def that may raise -/
structure GdX (P : Program) (w : World) (K : Fr) (mg : Str → Option Value) (base : Heap) (x : Str) (k : Nat) (sp : Sp) : Prop where
  ex : ∃ (f : Addr) (fd : FuncData) (ps : List Str), mg x = some (.ref f) ∧ PySem.W.keepIn K (.ref f) = true ∧ Binds K fd ps [] ∧ FnOk P w K mg base (L2.CX P w) k f fd ps sp
section
variable {X : Cx} {C : Addr} {W : WX} {p pos : Pos} {k : Nat} {x : Str} {e : Expr} {es : List Expr} {ta : TA} {dr : DA} {c : CtX}
/-- f(e, ..), f may raise, within a def that may -/
def dCallX (wd : Prop) (c : CtX) (u : DA) : DE := fun ρ Q => u ρ fun ds ρ1 => ∃ a : c.α, ds = c.args a ∧ c.pre a ∧ (∀ r, c.res a = some r → Q r ρ1) ∧ (c.res a = none → wd)
theorem pd_callX (G : GdX X.prog X.w X.K X.mg X.base x k (c.sp X.K C)) (tk : Takes X W) (hr : Room k X.A) (ha : PDA X false (e :: es) ta dr) (hgl : Gl X x := by rfl) (hdb : (x == ("__debug__" : Str)) = false := by decide)
    (he : starEach (e :: es) X.env = (false, eval e X.env) :: starEach es X.env := by rfl) (hpl : (backTo pos (starEach es X.env)).any (·.1) = false := by rfl) : PD X false (.Call (.Name x p) (e :: es) [] pos) (tCallS (c.sp X.K C) (WE W) ta) (dCallX (WD X C W) c dr) := by
  obtain ⟨f, fd, ps, h1, h2, h3, h6⟩ := G.ex
  refine ⟨pe_callS h6 hr hgl h1 h2 h3 (fun σ => passAt tk σ) ha.pa hdb he hpl, fun z hz F H ρ σ Q R S q kk => ?_⟩
  refine ha.dv z hz F H ρ σ _ _ S q fun vs H1 F1 ρ1 ds e1 S1 o1 q1 => ?_
  obtain ⟨a, ea, hp, q2, q3⟩ := q1
  refine ⟨F1, a, S1.fh, by rw [← ea, ← hz.1]; exact o1, hp, fun r er v H' F' g1 g2 g3 g4 g5 => ?_, fun er H' d g1 g2 => q3 er H' d σ ((hz.3.trans (S1.base hz.io0)).trans g1) g2⟩
  rw [← hz.1] at g5
  obtain ⟨S2, o2⟩ := S1.called g1 g2 g3 g4 g5
  exact kk v H' F' ρ1 _ (e1.trans g2) S2 o2 (q2 r er)
/-- try: y = f(o); except TooLarge as n: return (n.what, i) -/
def dTry (c : CtX) (j y n : Nat) (i : Int) : DS := fun D ρ => n < ρ.length ∧ ∃ (d : DL.D) (a : c.α), ρ[j]? = some (.fr d) ∧ [d] = c.args a ∧ c.pre a ∧ (∀ r, c.res a = some r → match r with
  | .fr d' => D.nx (ρ.set y (.fr d'))
  | .ow o => D.nx (ρ.set y (.ow o))
  | .sl _ => False) ∧ (c.res a = none → D.rt (.fr (.tup [.str figs, .int i])) ρ)
theorem pds_try (j y n : Nat) {i : Int} {xo xy xn : Str} {io : Nat} {p1 p2 p3 p4 p5 p6 p7 p8 p9 q1 q2 : Pos} {jj kk : Nat} (O : TLO X.prog X.K X.mg C) (G : GdX X.prog X.w X.K X.mg X.base x k (c.sp X.K C)) (hr : Room k X.A) (hs : X.stack = X.env :: X.outer) (hf : X.env.frame = some X.env.locals) (hN : X.N.Nodup) (hc : X.calm = true)
    (tk0 : Takes X (fun _ _ _ _ => False))
    (jN : X.N[j]? = some xo := by rfl) (jv : Vis X.env.scope xo := by first | exact Or.inl rfl | exact Or.inr (Or.inl rfl) | exact Or.inr (Or.inr rfl)) (jd : (xo == ("__debug__" : Str)) = false := by decide) (jcd : (xo == ("__classdict__" : Str)) = false := by decide)
    (yN : X.N[y]? = some xy := by rfl) (yl : Loc X.env.scope xy := by first | exact Or.inl rfl | exact Or.inr rfl) (yf : X.fn xy = true ∨ X.env.scope.names.lookup xy = some .local := by first | exact .inl rfl | exact .inr rfl | assumption)
    (nN : X.N[n]? = some xn := by rfl) (nl : X.env.kindOf xn = some .local := by rfl) (nv : Vis X.env.scope xn := by first | exact Or.inl rfl | exact Or.inr (Or.inl rfl) | exact Or.inr (Or.inr rfl)) (nd : (xn == ("__debug__" : Str)) = false := by decide) (ncd : (xn == ("__classdict__" : Str)) = false := by decide)
    (hgl : Gl X x := by rfl) (hdb : (x == ("__debug__" : Str)) = false := by decide) (hgT : Gl X "TooLarge" := by rfl)
    (hsw : swapsWith (.Call (.Name x p1) [.Name xo p2] [] p3) (some (.Name xy p4)) p5.line X.env = pure false := by rfl)
    (he : starEach [.Name xo p2] X.env = [(false, eval (.Name xo p2) X.env)] := by rfl)
    (hab : attributeBase (.Name xn q1) "what" X.env (eval (.Name xn q1) X.env) = eval (.Name xn q1) X.env := by rfl)
    (hne : n ≠ j) (hny : n ≠ y) :
    PDS X false (.Try [.Assign [.Name xy p4] (.Call (.Name x p1) [.Name xo p2] [] p3) p5] [.ExceptHandler (some (.Name "TooLarge" p6)) (some xn) [.Return (some (.Tuple [.Attribute (.Name xn q1) "what" q2, .Constant (.int i) jj p7] kk p8)) p9] pos] [] [] p)
      (fun D σ H => tAsg (tCallS (c.sp X.K C) (WE (wAs X.K (.ref C) n (fun a cls d => tRet (tTup (tCons (tWhat C a cls d (tVar n)) (tCons (tC (.int i)) tNil)))) (fun _ _ _ _ => False) D)) (tCons (tVar j) tNil)) (gName y) D σ H) (dTry c j y n i) := by
  obtain ⟨f, fd, ps, h1, h2, h3, h6⟩ := G.ex
  obtain ⟨fI, T⟩ := O.ex
  refine ⟨ps_try_as (i := n) (c := .ref C) (tb := fun W => tAsg (tCallS (c.sp X.K C) (WE W) (tCons (tVar j) tNil)) (gName y)) (ts := fun a cls d => tRet (tTup (tCons (tWhat C a cls d (tVar n)) (tCons (tC (.int i)) tNil)))) hs hf hN nN nl ⟨hgT, by decide, .inl T.gC⟩ tk0
    (fun W pn xe tk _ => pss_one (ps_set (X := X.tr pn xe) hN yN yl (pe_callS (X := X.tr pn xe) h6 hr hgl h1 h2 h3 (fun σ => passAt tk σ) (pa_cons (pe_var jN jv jd jcd) pa_nil he) hdb he rfl) hsw yf))
    (fun a oe cls d pn hz hf => pss_one (ps_ret (pe_tup (pa_cons (pe_what T hz hf (pe_var nN nv nd ncd) hab) (pa_cons pe_int pa_nil rfl) rfl)))), fun z hz D E F H ρ σ S q L => ?_⟩
  obtain ⟨hlt0, d, a, hj, ea, hp, q1, q2⟩ := q
  obtain ⟨v, hv, dv, e1, rv⟩ := S.sl j _ hj
  subst e1
  refine ⟨dv, hv, F, a, S.fh, by rw [← ea]; exact RepL.cons (by rw [← hz.1]; exact rv) (repL_nil.mpr rfl), hp, fun r er v H' F' g1 g2 g3 g4 g5 => ?_, fun er H' dd g1 g2 => ?_⟩
  · rw [← hz.1] at g5
    obtain ⟨S2, o2⟩ := S.called g1 g2 g3 g4 g5
    have hy : z.io = none ∨ y ≠ 0 := .inl hz.io0
    have q1 := q1 r er
    cases r with
    | fr d' => exact L.nx F' H' _ _ g2 (S2.putF o2 hy) q1
    | ow o =>
      obtain ⟨a2, rfl, k1, k2, k3, k4⟩ := o2
      exact L.nx F' H' _ _ g2 (S2.putO k1 k2 k3 k4 hy) q1
    | sl _ => exact q1.elim
  · have S2 : Sta z F H' ρ σ := S.grow (Ex.refl F) g1 (S.fh.trans g1) fun a o h => .inl h
    refine ⟨true, T.te, fun _ x hx => ?_, fun z => Bool.noConfusion z⟩
    have hl : n < σ.length := by
      rw [← S.len]
      exact hlt0
    refine ⟨.ref x, List.getElem?_set_self hl, rfl, rfl, dd, _, rfl, g2, ?_⟩
    refine ⟨sz_of (show 2 ≤ 100000 by decide), fun t ht => ?_⟩
    have S3 := S2.newF ht (.tup [.str figs, .int i])
    have e3 : Ex F (upd F t (.tup [.str figs, .int i])) := Ex.new (S2.fz ht)
    exact L.rt _ _ _ ρ σ (.fr (.tup [.str figs, .int i])) e3 S3 (rep_tup.mpr ⟨_, _, rfl, st_of upd_same, RepL.cons (rep_str.mpr rfl) (RepL.cons (rep_int.mpr rfl) (repL_nil.mpr rfl))⟩) (q2 er)
end
end DL
end
section
set_option Elab.async false
set_option linter.all false
set_option maxRecDepth 100000
set_option maxHeartbeats 4000000
/-! DL18: the hook with defs that close over their class; the facts of TooLarge. -/
namespace DL
open PySem PySem.Spec PyProof.Rows L2 Evl
open He (ga ma Fa eqO eqO_ok ba)
open He5 (wf wrapB DefA fnA valA)
/-- a def, the addresses of what it closes over left out -/
def fnE (K : Fr) (a : Addr) : He5.FnW := match K.lookup a with
  | some ⟨_, _, .func fd, _⟩ => some (fd.name, fd.qualname, fd.params, fd.body, fd.scope, fd.globals, fd.closure.map fun c => (c.1, 0), fd.builtins)
  | _ => none
def valE (d : DefA) : He5.FnW := some (d.name, d.qual, d.params, .stmts d.body, d.scope, mainGlobals, [(("__class__" : Str), 0)], builtinsNs)
def obsY (ex : Fr → Bool) (fn cl : List DefA) (K : Fr) : He.AlD := (ex K && fn.all fun d => d.ok K, (fn.map fun d => fnA K (d.at_ K)) ++ cl.map fun d => fnE K (d.at_ K))
def valY (fn cl : List DefA) : He.AlD := (true, fn.map DefA.val ++ cl.map valE)
def SaysY (ex : Fr → Bool) (fn cl : List DefA) (K : Fr) : Prop := obsY ex fn cl K = valY fn cl
def SaysE (cl : List DefA) (K : Fr) : Prop := (cl.map fun d => fnE K (d.at_ K)) = cl.map valE
theorem SaysY.z {ex : Fr → Bool} {fn cl : List DefA} {K : Fr} (h : SaysY ex fn cl K) : SaysZ ex fn K ∧ SaysE cl K := by
  have e1 : (ex K && fn.all fun d => d.ok K) = true := congrArg (fun z : He.AlD => z.1) h
  have e2 : (fn.map fun d => fnA K (d.at_ K)) ++ (cl.map fun d => fnE K (d.at_ K)) = fn.map DefA.val ++ cl.map valE := congrArg (fun z : He.AlD => z.2) h
  obtain ⟨e3, e4⟩ := List.append_inj e2 (by rw [List.length_map, List.length_map])
  exact ⟨show (_, _) = (_, _) by rw [e1, e3], e4⟩
def refsY (o : Obj) : List Addr := match o.data with
  | .func fd => He.refV fd.code ++ He.refV fd.defaults ++ fd.closure.map (·.2)
  | _ => refsR o
def nextY (g : Addr → Option Obj) (as : List Addr) : List Addr := as.flatMap fun a => match g a with
  | some o => refsY o
  | none => []
def frontY (g : Addr → Option Obj) : Nat → List Addr → List Addr
  | 0, as => as
  | n + 1, as => as ++ frontY g n (nextY g as)
def asY (g : Addr → Option Obj) (n : Nat) (xs : List Str) : List Addr := mainGlobals :: cStatics :: frontY g n (rootsR g xs)
def obsYG (n : Nat) (xs : List Str) (ex : Fr → Bool) (fn cl : List DefA) (g : Addr → Option Obj) : He.AlD := obsY ex fn cl (He.frG g (asY g n xs))
def hookY (n : Nat) (xs : List Str) (ex : Fr → Bool) (fn cl : List DefA) : PySem.W.Hook where
  α := He.AlD
  obs := fun s => obsYG n xs ex fn cl s.heap.get?
  val := fun _ => valY fn cl
  says := fun _ h => ∃ K : Fr, K.In h ∧ SaysY ex fn cl K
  of := fun _ _ e => ⟨_, He.frG_in, e⟩
  keeps := fun _ _ _ ⟨K, hK, c⟩ k => ⟨K, PySem.W.Frag.In.keeps hK k, c⟩
theorem obsYG_eq {n : Nat} {xs : List Str} {ex : Fr → Bool} {fn cl : List DefA} {g : Addr → Option Obj} {s : Shared} (h : ∀ a, g a = s.heap.get? a) : obsYG n xs ex fn cl g = (hookY n xs ex fn cl).obs s := by
  have e : g = s.heap.get? := funext h
  rw [e] <;> rfl
/-! ### TooLarge -/
def tlClsB (K : Fr) (C : Addr) : Bool := match K.lookup C with
  | some ⟨.type "type", _, .cls cd, sl⟩ => (match cd.mro, sl.toList with
    | .ref C' :: bm, [_, _, _, _, some (.builtin n), _] => C' == C && n == "ValueError.__new__" && !cd.hasDel && cd.hasDict && PySem.HandSPX.refsVE bm
    | _, _ => false)
  | _ => false
theorem tlCls_ok {K : Fr} {C : Addr} (q : tlClsB K C = true) : ∃ nm q N bs bm sn sub ab col dd k0 k1 k2 k3 k5, K.lookup C = some (excClassObj nm q C N bs bm true sn sub ab col dd k0 k1 k2 k3 k5 "ValueError.__new__") ∧ PySem.HandSPX.refsVE bm = true := by
  unfold tlClsB at q
  split at q
  · rename_i dd cd sl ho
    split at q
    · rename_i C' bm k0 k1 k2 k3 n k5 hm hs
      simp only [Bool.and_eq_true, beq_iff_eq, Bool.not_eq_true'] at q
      obtain ⟨⟨⟨⟨rfl, rfl⟩, hdel⟩, hd⟩, ht⟩ := q
      obtain ⟨nm, bs, mro, ns, qn, hdd, sn, sub, ab, col, del⟩ := cd
      dsimp only at hm hdel hd
      subst hm hdel hd
      have hsl : sl = #[k0, k1, k2, k3, some (.builtin "ValueError.__new__"), k5] := by
        obtain ⟨l⟩ := sl
        simp only at hs
        rw [hs]
      subst hsl
      exact ⟨nm, qn, ns, bs, bm, sn, sub, ab, col, dd, k0, k1, k2, k3, k5, ho, ht⟩
    · cases q
  · cases q
def tlFnB (file : Str) (K : Fr) (C f : Addr) : Bool := match K.lookup f with
  | some ⟨_, _, .func fd, _⟩ => (match fd.code, fd.closure, fd.defaults, fd.kwdefaults with
    | .ref cda, [(_, cc)], .none, .none => PySem.W.codeIn K (.ref cda) "TooLarge.__init__" && ((match K.lookup cda with
      | some ⟨_, _, .fields vs, _⟩ => (match vs[2]? with
        | some (Value.str fl _) => file == fl
        | _ => false)
      | _ => false) && (match K.lookup cc with
      | some ⟨_, _, .cell (some (.ref D)), _⟩ => D == C
      | _ => false))
    | _, _, _, _ => false)
  | _ => false
def tlB (file : Str) (K : Fr) : Bool := (Fa.glo "TooLarge").ok K && ((Fa.free "super").ok K && (PySem.W.excInitIn K (ga K "TooLarge") PySem.HandSPX.veTail "ValueError.__new__" && (tlClsB K (ga K "TooLarge") &&
  (eqO (PySem.W.findIn K (.ref (ga K "TooLarge")) "__setattr__") (some (some (.builtin "object.__setattr__"))) && (eqO (PySem.W.findIn K (.ref (ga K "TooLarge")) "__getattribute__") (some (some (.builtin "BaseException.__getattribute__"))) &&
  (eqO (PySem.W.findIn K (.ref (ga K "TooLarge")) "__getattr__") (some none) && (eqO (PySem.W.findIn K (.ref (ga K "TooLarge")) "what") (some none) && (eqO (PySem.W.findIn K (.ref (ga K "TooLarge")) "__init__") (some (some (.ref (ma K (ga K "TooLarge") "__init__")))) &&
  (decide (PySem.W.typeIn K (.ref (ma K (ga K "TooLarge") "__init__")) = some (.type "function")) && (PySem.W.keepIn K (.ref (ga K "TooLarge")) && (decide (PySem.W.subIn K (.ref (ga K "TooLarge")) (.type "BaseException") = some true) &&
  (decide (PySem.W.subIn K (.ref (ga K "TooLarge")) (.type "ValueError") = some true) && (decide (PySem.W.typeIn K (.ref (ga K "TooLarge")) = some (.type "type")) && (PySem.W.hasDictIn K (ga K "TooLarge") &&
  (decide (PySem.W.exmOne K (.ref (ga K "TooLarge")) (.ref (ga K "TooLarge")) = some true) && (decide (PySem.W.mroIn K (ga K "TooLarge") (.ref (ga K "TooLarge")) = some true) && (eqO (PySem.W.nsIn K cStatics "thirdparty.any") (some none) &&
  (eqO (PySem.W.ks_superIn K (ga K "TooLarge") (ga K "TooLarge") "__init__") (some (some (.builtin "ValueError.__init__"))) && tlFnB file K (ga K "TooLarge") (ma K (ga K "TooLarge") "__init__")))))))))))))))))))
theorem tlo_ok {P : Program} {K : Fr} {h : Heap} {mg : Str → Option Value} {d : DefA} (X : K.In h) (G : h.Ns mainGlobals mg) (hd : d.at_ K = ma K (ga K "TooLarge") "__init__") (e : fnE K (d.at_ K) = valE d) (c : tlB P.main.file K = true) (top : (P.main.scope.names.lookup ("super" : Str)).isSome = false)
    (dn : d.name = "__init__") (dq : d.qual = "TooLarge.__init__")
    (hA : ∃ a1 a2 p1 p2, d.params = { posonlyargs := [], args := [{ arg := "self", annotation := none, pos := p1 }, { arg := "what", annotation := none, pos := p2 }], vararg := none, kwonlyargs := [], kw_defaults := [], kwarg := none, defaults := [] } ∧ a1 = 0 ∧ a2 = 0)
    (hB : ∃ (m : Str) (j : Nat) (p1 p2 p3 p4 p5 p6 q1 q2 q3 q4 : Pos), d.body = [.Expr (.Call (.Attribute (.Call (.Name "super" p1) [] [] p2) "__init__" p3) [.Constant (.str m) j p4] [] p5) p6, .Assign [.Attribute (.Name "self" q1) "what" q2] (.Name "what" q3) q4] ∧ (p3.endLine == p5.line) = true)
    (hS : d.scope = { kind := .function, names := [("self", .local), ("what", .local), ("__class__", .free), ("super", .globalImplicit)], isGenerator := false, isCoroutine := false, more := [] }) : TLO P K mg (ga K "TooLarge") := by
  unfold tlB at c
  obtain ⟨c1, c⟩ := ba c
  obtain ⟨c2, c⟩ := ba c
  obtain ⟨c3, c⟩ := ba c
  obtain ⟨c4, c⟩ := ba c
  obtain ⟨c5, c⟩ := ba c
  obtain ⟨c6, c⟩ := ba c
  obtain ⟨c7, c⟩ := ba c
  obtain ⟨c8, c⟩ := ba c
  obtain ⟨c9, c⟩ := ba c
  obtain ⟨c10, c⟩ := ba c
  obtain ⟨c11, c⟩ := ba c
  obtain ⟨c12, c⟩ := ba c
  obtain ⟨c13, c⟩ := ba c
  obtain ⟨c14, c⟩ := ba c
  obtain ⟨c15, c⟩ := ba c
  obtain ⟨c16, c⟩ := ba c
  obtain ⟨c17, c⟩ := ba c
  obtain ⟨c18, c⟩ := ba c
  obtain ⟨c19, c20⟩ := ba c
  refine ⟨⟨ma K (ga K "TooLarge") "__init__", He.glo_ok X G c1, tlCls_ok c4, eqO_ok c5, eqO_ok c6, eqO_ok c7, eqO_ok c8, eqO_ok c9, of_decide_eq_true c10, c11, of_decide_eq_true c12, of_decide_eq_true c13, of_decide_eq_true c14, c15, of_decide_eq_true c16, of_decide_eq_true c17, eqO_ok c18, eqO_ok c19, He.free_ok X G c2, ?_, top⟩, c3⟩
  rw [hd] at e
  unfold fnE valE at e
  unfold tlFnB at c20
  cases q : K.lookup (ma K (ga K "TooLarge") "__init__") with
  | none => rw [q] at c20; cases c20
  | some o =>
    obtain ⟨oc, od, dt, osl⟩ := o
    rw [q] at c20 e
    cases dt with
    | func fd =>
      obtain ⟨n1, n2, n3, n4, n5, n6, n7, n8, n9, n10, n11, n12, n13, n14, n15⟩ := fd
      have e2 : (some (n1, n2, n3, n4, n5, n6, n7.map (fun c => (c.1, 0)), n15) : He5.FnW) = some (d.name, d.qual, d.params, .stmts d.body, d.scope, mainGlobals, [(("__class__" : Str), 0)], builtinsNs) := e
      simp only [Option.some.injEq, Prod.mk.injEq] at e2
      obtain ⟨h1, h2, h3, h4, h5, h6, h7, h8⟩ := e2
      subst h1 h2 h3 h4 h5 h6 h8
      dsimp only at c20
      split at c20
      · rename_i cda nm cc
        obtain ⟨k1, k⟩ := ba c20
        obtain ⟨k2, k3⟩ := ba k
        have en : nm = ("__class__" : Str) := by
          simp only [List.map_cons, List.map_nil, List.cons.injEq, Prod.mk.injEq] at h7
          exact h7.1.1
        subst en
        refine ⟨oc, od, n10, n11, n12, cda, cc, n14, osl, d.params, d.body, d.scope, ?_, k1, hA, hB, hS, ?_, ?_⟩
        · rw [dn, dq]
        · split at k2
          · rename_i x1 x2 vs x3 e3
            split at k2
            · rename_i fl tf e4
              exact ⟨_, _, _, vs, fl, tf, e3, e4, k2⟩
            · cases k2
          · cases k2
        · split at k3
          · rename_i x1 x2 D x3 e3
            have eD : D = ga K "TooLarge" := beq_iff_eq.mp k3
            subst eD
            exact ⟨_, _, _, e3⟩
          · cases k3
      · cases c20
    | _ => cases c20
end DL
end
section
set_option Elab.async false
set_option linter.all false
set_option maxRecDepth 100000
set_option maxHeartbeats 4000000
/-! DL20: the hook in parts (the facts are reckoned in as many runs). -/
namespace DL
open PySem PySem.Spec PyProof.Rows L2 Evl
open He (ga ma Fa eqO eqO_ok ba)
open He5 (wf wrapB DefA fnA valA)
/-- a part: facts, defs, defs that close over their class -/
structure Pt3 where
  e : List (Fr → Bool)
  f : List DefA
  c : List DefA
def Pt3.ok (p : Pt3) (K : Fr) : Prop := SaysY (fun K => p.e.all fun f => f K) p.f p.c K
def Pt3.ob (n : Nat) (xs : List Str) (p : Pt3) (g : Addr → Option Obj) : He.AlD := obsYG n xs (fun K => p.e.all fun f => f K) p.f p.c g
def hookN (n : Nat) (xs : List Str) (ps : List Pt3) : PySem.W.Hook where
  α := List He.AlD
  obs := fun s => ps.map fun p => p.ob n xs s.heap.get?
  val := fun _ => ps.map fun p => valY p.f p.c
  says := fun _ h => ∃ K : Fr, K.In h ∧ ∀ p ∈ ps, p.ok K
  of := fun _ s e => ⟨He.frG s.heap.get? (asY s.heap.get? n xs), He.frG_in, fun p hp => (List.map_inj_left (f := fun p : Pt3 => p.ob n xs s.heap.get?) (g := fun p => valY p.f p.c)).mp e p hp⟩
  keeps := fun _ _ _ ⟨K, hK, c⟩ k => ⟨K, PySem.W.Frag.In.keeps hK k, c⟩
theorem saysN {K : Fr} : ∀ {ps : List Pt3}, (∀ p ∈ ps, p.ok K) → SaysZ (fun K => (ps.flatMap Pt3.e).all fun f => f K) (ps.flatMap Pt3.f) K ∧ SaysE (ps.flatMap Pt3.c) K
  | [], _ => ⟨rfl, rfl⟩
  | p :: ps, h => by
    obtain ⟨i1, i2⟩ := saysN (ps := ps) fun q hq => h q (List.mem_cons_of_mem _ hq)
    obtain ⟨z1, z2⟩ := SaysY.z (h p List.mem_cons_self)
    have a1 : ((p.e.all fun f => f K) && p.f.all fun d => d.ok K) = true := congrArg (fun z : He.AlD => z.1) z1
    have a2 : (p.f.map fun d => fnA K (d.at_ K)) = p.f.map DefA.val := congrArg (fun z : He.AlD => z.2) z1
    have b1 : (((ps.flatMap Pt3.e).all fun f => f K) && (ps.flatMap Pt3.f).all fun d => d.ok K) = true := congrArg (fun z : He.AlD => z.1) i1
    have b2 : ((ps.flatMap Pt3.f).map fun d => fnA K (d.at_ K)) = (ps.flatMap Pt3.f).map DefA.val := congrArg (fun z : He.AlD => z.2) i1
    obtain ⟨c1, c2⟩ := ba a1
    obtain ⟨c3, c4⟩ := ba b1
    have z2 : (p.c.map fun d => fnE K (d.at_ K)) = p.c.map valE := z2
    have i2 : ((ps.flatMap Pt3.c).map fun d => fnE K (d.at_ K)) = (ps.flatMap Pt3.c).map valE := i2
    refine ⟨?_, ?_⟩
    · show (((p.e ++ ps.flatMap Pt3.e).all fun f => f K) && (p.f ++ ps.flatMap Pt3.f).all fun d => d.ok K, (p.f ++ ps.flatMap Pt3.f).map fun d => fnA K (d.at_ K)) = (true, (p.f ++ ps.flatMap Pt3.f).map DefA.val)
      rw [List.all_append, List.all_append, c1, c2, c3, c4, List.map_append, List.map_append, a2, b2]
      rfl
    · show ((p.c ++ ps.flatMap Pt3.c).map fun d => fnE K (d.at_ K)) = (p.c ++ ps.flatMap Pt3.c).map valE
      rw [List.map_append, List.map_append, z2, i2]
end DL
end
section
set_option Elab.async false
set_option linter.all false
set_option maxRecDepth 100000
set_option maxHeartbeats 4000000
/-! The text of the law's program: its defs, facts. Printed by genF.py. -/
namespace W86
open PySem PySem.Spec PyProof.Rows L2 Evl DL
open He (ga ma Fa)
open He5 (DefA wf)
def top (i : Nat) : Stmt := PySem.Challenge.pw_trueruns_k86_whole_outer_rows_and_growin.main.body.getD i (.Pass ⟨0, 0, 0, 0⟩)
def cb (s : Stmt) (j : Nat) : Stmt := match s with
  | .ClassDef _ _ _ body _ _ _ _ _ _ _ => body.getD j (.Pass ⟨0, 0, 0, 0⟩)
  | _ => .Pass ⟨0, 0, 0, 0⟩
abbrev qD (p q : Int) : D := .tup [.int p, .int q]
abbrev zD : D := qD 0 1
abbrev oD : D := qD 1 1
abbrev s_is_whole : Stmt := top 16
abbrev NN_is_whole : List Str := ["thing"]
theorem sc_is_whole : FnScope NN_is_whole ["thing"] (defScope s_is_whole) := ⟨rfl, rfl, rfl, by decide +kernel, rfl, by decide +kernel, by decide +kernel⟩
def a_is_whole : DefA := ⟨fun K => ga K "is_whole", "is_whole", "is_whole", defArgs s_is_whole, defBody s_is_whole, defScope s_is_whole, [], []⟩
abbrev s_lowest : Stmt := top 17
abbrev NN_lowest : List Str := ["p", "q", "shared"]
theorem sc_lowest : FnScope NN_lowest ["p", "q"] (defScope s_lowest) := ⟨rfl, rfl, rfl, by decide +kernel, rfl, by decide +kernel, by decide +kernel⟩
def a_lowest : DefA := ⟨fun K => ga K "lowest", "lowest", "lowest", defArgs s_lowest, defBody s_lowest, defScope s_lowest, [], []⟩
abbrev s_is_number : Stmt := top 18
abbrev NN_is_number : List Str := ["thing", "p", "q"]
theorem sc_is_number : FnScope NN_is_number ["thing"] (defScope s_is_number) := ⟨rfl, rfl, rfl, by decide +kernel, rfl, by decide +kernel, by decide +kernel⟩
def a_is_number : DefA := ⟨fun K => ga K "is_number", "is_number", "is_number", defArgs s_is_number, defBody s_is_number, defScope s_is_number, [], []⟩
abbrev s_check_number : Stmt := top 19
abbrev NN_check_number : List Str := ["thing"]
theorem sc_check_number : FnScope NN_check_number ["thing"] (defScope s_check_number) := ⟨rfl, rfl, rfl, by decide +kernel, rfl, by decide +kernel, by decide +kernel⟩
def a_check_number : DefA := ⟨fun K => ga K "check_number", "check_number", "check_number", defArgs s_check_number, defBody s_check_number, defScope s_check_number, [], []⟩
abbrev s_plus : Stmt := top 20
abbrev NN_plus : List Str := ["x", "y"]
theorem sc_plus : FnScope NN_plus ["x", "y"] (defScope s_plus) := ⟨rfl, rfl, rfl, by decide +kernel, rfl, by decide +kernel, by decide +kernel⟩
def a_plus : DefA := ⟨fun K => ga K "plus", "plus", "plus", defArgs s_plus, defBody s_plus, defScope s_plus, [], []⟩
abbrev s_minus : Stmt := top 21
abbrev NN_minus : List Str := ["x", "y"]
theorem sc_minus : FnScope NN_minus ["x", "y"] (defScope s_minus) := ⟨rfl, rfl, rfl, by decide +kernel, rfl, by decide +kernel, by decide +kernel⟩
def a_minus : DefA := ⟨fun K => ga K "minus", "minus", "minus", defArgs s_minus, defBody s_minus, defScope s_minus, [], []⟩
abbrev s_product_of : Stmt := top 22
abbrev NN_product_of : List Str := ["x", "y"]
theorem sc_product_of : FnScope NN_product_of ["x", "y"] (defScope s_product_of) := ⟨rfl, rfl, rfl, by decide +kernel, rfl, by decide +kernel, by decide +kernel⟩
def a_product_of : DefA := ⟨fun K => ga K "product_of", "product_of", "product_of", defArgs s_product_of, defBody s_product_of, defScope s_product_of, [], []⟩
abbrev s_over : Stmt := top 23
abbrev NN_over : List Str := ["x", "y"]
theorem sc_over : FnScope NN_over ["x", "y"] (defScope s_over) := ⟨rfl, rfl, rfl, by decide +kernel, rfl, by decide +kernel, by decide +kernel⟩
def a_over : DefA := ⟨fun K => ga K "over", "over", "over", defArgs s_over, defBody s_over, defScope s_over, [], []⟩
abbrev s_opposite : Stmt := top 24
abbrev NN_opposite : List Str := ["x"]
theorem sc_opposite : FnScope NN_opposite ["x"] (defScope s_opposite) := ⟨rfl, rfl, rfl, by decide +kernel, rfl, by decide +kernel, by decide +kernel⟩
def a_opposite : DefA := ⟨fun K => ga K "opposite", "opposite", "opposite", defArgs s_opposite, defBody s_opposite, defScope s_opposite, [], []⟩
abbrev s_sign_of : Stmt := top 25
abbrev NN_sign_of : List Str := ["x"]
theorem sc_sign_of : FnScope NN_sign_of ["x"] (defScope s_sign_of) := ⟨rfl, rfl, rfl, by decide +kernel, rfl, by decide +kernel, by decide +kernel⟩
def a_sign_of : DefA := ⟨fun K => ga K "sign_of", "sign_of", "sign_of", defArgs s_sign_of, defBody s_sign_of, defScope s_sign_of, [], []⟩
abbrev s_powered : Stmt := top 26
abbrev NN_powered : List Str := ["x", "k", "made", "square"]
theorem sc_powered : FnScope NN_powered ["x", "k"] (defScope s_powered) := ⟨rfl, rfl, rfl, by decide +kernel, rfl, by decide +kernel, by decide +kernel⟩
def a_powered : DefA := ⟨fun K => ga K "powered", "powered", "powered", defArgs s_powered, defBody s_powered, defScope s_powered, [], []⟩
abbrev s_trimmed : Stmt := top 30
abbrev NN_trimmed : List Str := ["row", "k"]
theorem sc_trimmed : FnScope NN_trimmed ["row"] (defScope s_trimmed) := ⟨rfl, rfl, rfl, by decide +kernel, rfl, by decide +kernel, by decide +kernel⟩
def a_trimmed : DefA := ⟨fun K => ga K "trimmed", "trimmed", "trimmed", defArgs s_trimmed, defBody s_trimmed, defScope s_trimmed, [], []⟩
abbrev s_poly : Stmt := top 31
abbrev NN_poly : List Str := ["row", "x"]
theorem sc_poly : FnScope NN_poly ["row"] (defScope s_poly) := ⟨rfl, rfl, rfl, by decide +kernel, rfl, by decide +kernel, by decide +kernel⟩
def a_poly : DefA := ⟨fun K => ga K "poly", "poly", "poly", defArgs s_poly, defBody s_poly, defScope s_poly, [], []⟩
abbrev s_cleared : Stmt := top 32
abbrev NN_cleared : List Str := ["p", "m", "c"]
theorem sc_cleared : FnScope NN_cleared ["p"] (defScope s_cleared) := ⟨rfl, rfl, rfl, by decide +kernel, rfl, by decide +kernel, by decide +kernel⟩
def a_cleared : DefA := ⟨fun K => ga K "cleared", "cleared", "cleared", defArgs s_cleared, defBody s_cleared, defScope s_cleared, [], []⟩
abbrev s_poly_times : Stmt := top 34
abbrev NN_poly_times : List Str := ["p", "q", "a", "m", "b", "n", "made", "j", "k", "c"]
theorem sc_poly_times : FnScope NN_poly_times ["p", "q"] (defScope s_poly_times) := ⟨rfl, rfl, rfl, by decide +kernel, rfl, by decide +kernel, by decide +kernel⟩
def a_poly_times : DefA := ⟨fun K => ga K "poly_times", "poly_times", "poly_times", defArgs s_poly_times, defBody s_poly_times, defScope s_poly_times, [], []⟩
abbrev s_poly_scaled : Stmt := top 35
abbrev NN_poly_scaled : List Str := ["p", "x", "c"]
theorem sc_poly_scaled : FnScope NN_poly_scaled ["p", "x"] (defScope s_poly_scaled) := ⟨rfl, rfl, rfl, by decide +kernel, rfl, by decide +kernel, by decide +kernel⟩
def a_poly_scaled : DefA := ⟨fun K => ga K "poly_scaled", "poly_scaled", "poly_scaled", defArgs s_poly_scaled, defBody s_poly_scaled, defScope s_poly_scaled, [], []⟩
abbrev s_row_plus : Stmt := top 37
abbrev NN_row_plus : List Str := ["v", "w", "k"]
theorem sc_row_plus : FnScope NN_row_plus ["v", "w"] (defScope s_row_plus) := ⟨rfl, rfl, rfl, by decide +kernel, rfl, by decide +kernel, by decide +kernel⟩
def a_row_plus : DefA := ⟨fun K => ga K "row_plus", "row_plus", "row_plus", defArgs s_row_plus, defBody s_row_plus, defScope s_row_plus, [], []⟩
abbrev s_row_scaled : Stmt := top 38
abbrev NN_row_scaled : List Str := ["v", "x", "c"]
theorem sc_row_scaled : FnScope NN_row_scaled ["v", "x"] (defScope s_row_scaled) := ⟨rfl, rfl, rfl, by decide +kernel, rfl, by decide +kernel, by decide +kernel⟩
def a_row_scaled : DefA := ⟨fun K => ga K "row_scaled", "row_scaled", "row_scaled", defArgs s_row_scaled, defBody s_row_scaled, defScope s_row_scaled, [], []⟩
abbrev s_dot : Stmt := top 39
abbrev NN_dot : List Str := ["v", "w", "made", "k"]
theorem sc_dot : FnScope NN_dot ["v", "w"] (defScope s_dot) := ⟨rfl, rfl, rfl, by decide +kernel, rfl, by decide +kernel, by decide +kernel⟩
def a_dot : DefA := ⟨fun K => ga K "dot", "dot", "dot", defArgs s_dot, defBody s_dot, defScope s_dot, [], []⟩
abbrev s_flipped : Stmt := top 40
abbrev NN_flipped : List Str := ["X", "k", "line"]
theorem sc_flipped : FnScope NN_flipped ["X"] (defScope s_flipped) := ⟨rfl, rfl, rfl, by decide +kernel, rfl, by decide +kernel, by decide +kernel⟩
def a_flipped : DefA := ⟨fun K => ga K "flipped", "flipped", "flipped", defArgs s_flipped, defBody s_flipped, defScope s_flipped, [], []⟩
abbrev s_times_matrix : Stmt := top 41
abbrev NN_times_matrix : List Str := ["X", "Y", "columns", "line", "column"]
theorem sc_times_matrix : FnScope NN_times_matrix ["X", "Y"] (defScope s_times_matrix) := ⟨rfl, rfl, rfl, by decide +kernel, rfl, by decide +kernel, by decide +kernel⟩
def a_times_matrix : DefA := ⟨fun K => ga K "times_matrix", "times_matrix", "times_matrix", defArgs s_times_matrix, defBody s_times_matrix, defScope s_times_matrix, [], []⟩
abbrev s_plus_matrix : Stmt := top 42
abbrev NN_plus_matrix : List Str := ["X", "Y", "k"]
theorem sc_plus_matrix : FnScope NN_plus_matrix ["X", "Y"] (defScope s_plus_matrix) := ⟨rfl, rfl, rfl, by decide +kernel, rfl, by decide +kernel, by decide +kernel⟩
def a_plus_matrix : DefA := ⟨fun K => ga K "plus_matrix", "plus_matrix", "plus_matrix", defArgs s_plus_matrix, defBody s_plus_matrix, defScope s_plus_matrix, [], []⟩
abbrev s_scaled_matrix : Stmt := top 43
abbrev NN_scaled_matrix : List Str := ["X", "x", "line"]
theorem sc_scaled_matrix : FnScope NN_scaled_matrix ["X", "x"] (defScope s_scaled_matrix) := ⟨rfl, rfl, rfl, by decide +kernel, rfl, by decide +kernel, by decide +kernel⟩
def a_scaled_matrix : DefA := ⟨fun K => ga K "scaled_matrix", "scaled_matrix", "scaled_matrix", defArgs s_scaled_matrix, defBody s_scaled_matrix, defScope s_scaled_matrix, [], []⟩
abbrev s_divided : Stmt := top 45
abbrev NN_divided : List Str := ["p", "q", "rest", "quotient", "k", "factor", "j"]
theorem sc_divided : FnScope NN_divided ["p", "q"] (defScope s_divided) := ⟨rfl, rfl, rfl, by decide +kernel, rfl, by decide +kernel, by decide +kernel⟩
def a_divided : DefA := ⟨fun K => ga K "divided", "divided", "divided", defArgs s_divided, defBody s_divided, defScope s_divided, [], []⟩
abbrev s_primitive : Stmt := top 46
abbrev NN_primitive : List Str := ["row", "shared", "c"]
theorem sc_primitive : FnScope NN_primitive ["row"] (defScope s_primitive) := ⟨rfl, rfl, rfl, by decide +kernel, rfl, by decide +kernel, by decide +kernel⟩
def a_primitive : DefA := ⟨fun K => ga K "primitive", "primitive", "primitive", defArgs s_primitive, defBody s_primitive, defScope s_primitive, [], []⟩
abbrev s_whole_numbers : Stmt := top 47
abbrev NN_whole_numbers : List Str := ["p", "row", "m"]
theorem sc_whole_numbers : FnScope NN_whole_numbers ["p"] (defScope s_whole_numbers) := ⟨rfl, rfl, rfl, by decide +kernel, rfl, by decide +kernel, by decide +kernel⟩
def a_whole_numbers : DefA := ⟨fun K => ga K "whole_numbers", "whole_numbers", "whole_numbers", defArgs s_whole_numbers, defBody s_whole_numbers, defScope s_whole_numbers, [], []⟩
abbrev s_whole_rest : Stmt := top 48
abbrev NN_whole_rest : List Str := ["a", "b", "size", "sign", "rest", "factor", "gap", "k", "c"]
theorem sc_whole_rest : FnScope NN_whole_rest ["a", "b"] (defScope s_whole_rest) := ⟨rfl, rfl, rfl, by decide +kernel, rfl, by decide +kernel, by decide +kernel⟩
def a_whole_rest : DefA := ⟨fun K => ga K "whole_rest", "whole_rest", "whole_rest", defArgs s_whole_rest, defBody s_whole_rest, defScope s_whole_rest, [], []⟩
abbrev s_common : Stmt := top 49
abbrev NN_common : List Str := ["p", "q", "a", "b", "rest", "c"]
theorem sc_common : FnScope NN_common ["p", "q"] (defScope s_common) := ⟨rfl, rfl, rfl, by decide +kernel, rfl, by decide +kernel, by decide +kernel⟩
def a_common : DefA := ⟨fun K => ga K "common", "common", "common", defArgs s_common, defBody s_common, defScope s_common, [], []⟩
abbrev s_func_form : Stmt := top 63
abbrev NN_func_form : List Str := ["num", "den", "shared", "upper", "lower", "factor"]
theorem sc_func_form : FnScope NN_func_form ["num", "den"] (defScope s_func_form) := ⟨rfl, rfl, rfl, by decide +kernel, rfl, by decide +kernel, by decide +kernel⟩
def a_func_form : DefA := ⟨fun K => ga K "func_form", "func_form", "func_form", defArgs s_func_form, defBody s_func_form, defScope s_func_form, [], []⟩
abbrev s_check_sides : Stmt := top 64
abbrev NN_check_sides : List Str := ["p", "bound"]
theorem sc_check_sides : FnScope NN_check_sides ["p", "bound"] (defScope s_check_sides) := ⟨rfl, rfl, rfl, by decide +kernel, rfl, by decide +kernel, by decide +kernel⟩
def a_check_sides : DefA := ⟨fun K => ga K "check_sides", "check_sides", "check_sides", defArgs s_check_sides, defBody s_check_sides, defScope s_check_sides, [], []⟩
abbrev s_Func___init__ : Stmt := cb (top 65) 1
abbrev NN_Func___init__ : List Str := ["self", "num", "den", "upper", "lower"]
theorem sc_Func___init__ : FnScope NN_Func___init__ ["self", "num", "den"] (defScope s_Func___init__) := ⟨rfl, rfl, rfl, by decide +kernel, rfl, by decide +kernel, by decide +kernel⟩
def a_Func___init__ : DefA := ⟨fun K => ma K (ga K "Func") "__init__", "__init__", "Func.__init__", defArgs s_Func___init__, defBody s_Func___init__, defScope s_Func___init__, [], []⟩
abbrev s_Func_is_one : Stmt := cb (top 65) 2
abbrev NN_Func_is_one : List Str := ["self"]
theorem sc_Func_is_one : FnScope NN_Func_is_one ["self"] (defScope s_Func_is_one) := ⟨rfl, rfl, rfl, by decide +kernel, rfl, by decide +kernel, by decide +kernel⟩
def a_Func_is_one : DefA := ⟨fun K => wf K (ga K "Func") "property" "is_one", "is_one", "Func.is_one", defArgs s_Func_is_one, defBody s_Func_is_one, defScope s_Func_is_one, [], []⟩
abbrev s_Func___eq__ : Stmt := cb (top 65) 3
abbrev NN_Func___eq__ : List Str := ["self", "other"]
theorem sc_Func___eq__ : FnScope NN_Func___eq__ ["self", "other"] (defScope s_Func___eq__) := ⟨rfl, rfl, rfl, by decide +kernel, rfl, by decide +kernel, by decide +kernel⟩
def a_Func___eq__ : DefA := ⟨fun K => ma K (ga K "Func") "__eq__", "__eq__", "Func.__eq__", defArgs s_Func___eq__, defBody s_Func___eq__, defScope s_Func___eq__, [], []⟩
abbrev s_Func___mul__ : Stmt := cb (top 65) 4
abbrev NN_Func___mul__ : List Str := ["self", "other"]
theorem sc_Func___mul__ : FnScope NN_Func___mul__ ["self", "other"] (defScope s_Func___mul__) := ⟨rfl, rfl, rfl, by decide +kernel, rfl, by decide +kernel, by decide +kernel⟩
def a_Func___mul__ : DefA := ⟨fun K => ma K (ga K "Func") "__mul__", "__mul__", "Func.__mul__", defArgs s_Func___mul__, defBody s_Func___mul__, defScope s_Func___mul__, [], []⟩
abbrev s_Func_one : Stmt := cb (top 65) 5
abbrev NN_Func_one : List Str := []
theorem sc_Func_one : FnScope NN_Func_one [] (defScope s_Func_one) := ⟨rfl, rfl, rfl, by decide +kernel, rfl, by decide +kernel, by decide +kernel⟩
def a_Func_one : DefA := ⟨fun K => wf K (ga K "Func") "staticmethod" "one", "one", "Func.one", defArgs s_Func_one, defBody s_Func_one, defScope s_Func_one, [], []⟩
abbrev s_Func_undone : Stmt := cb (top 65) 11
abbrev NN_Func_undone : List Str := ["self"]
theorem sc_Func_undone : FnScope NN_Func_undone ["self"] (defScope s_Func_undone) := ⟨rfl, rfl, rfl, by decide +kernel, rfl, by decide +kernel, by decide +kernel⟩
def a_Func_undone : DefA := ⟨fun K => ma K (ga K "Func") "undone", "undone", "Func.undone", defArgs s_Func_undone, defBody s_Func_undone, defScope s_Func_undone, [], []⟩
abbrev s_coprime_func : Stmt := top 66
abbrev NN_coprime_func : List Str := ["num", "den", "made"]
theorem sc_coprime_func : FnScope NN_coprime_func ["num", "den"] (defScope s_coprime_func) := ⟨rfl, rfl, rfl, by decide +kernel, rfl, by decide +kernel, by decide +kernel⟩
def a_coprime_func : DefA := ⟨fun K => ga K "coprime_func", "coprime_func", "coprime_func", defArgs s_coprime_func, defBody s_coprime_func, defScope s_coprime_func, [], []⟩
abbrev s_made_func : Stmt := top 67
abbrev NN_made_func : List Str := ["num", "den", "upper", "lower", "sides", "made"]
theorem sc_made_func : FnScope NN_made_func ["num", "den"] (defScope s_made_func) := ⟨rfl, rfl, rfl, by decide +kernel, rfl, by decide +kernel, by decide +kernel⟩
def a_made_func : DefA := ⟨fun K => ga K "made_func", "made_func", "made_func", defArgs s_made_func, defBody s_made_func, defScope s_made_func, [], []⟩
abbrev s_check_part : Stmt := top 72
abbrev NN_check_part : List Str := ["part"]
theorem sc_check_part : FnScope NN_check_part ["part"] (defScope s_check_part) := ⟨rfl, rfl, rfl, by decide +kernel, rfl, by decide +kernel, by decide +kernel⟩
def a_check_part : DefA := ⟨fun K => ga K "check_part", "check_part", "check_part", defArgs s_check_part, defBody s_check_part, defScope s_check_part, [], []⟩
abbrev s_Link___init__ : Stmt := cb (top 73) 0
abbrev NN_Link___init__ : List Str := ["self", "part", "length", "func"]
theorem sc_Link___init__ : FnScope NN_Link___init__ ["self", "part", "length", "func"] (defScope s_Link___init__) := ⟨rfl, rfl, rfl, by decide +kernel, rfl, by decide +kernel, by decide +kernel⟩
def a_Link___init__ : DefA := ⟨fun K => ma K (ga K "Link") "__init__", "__init__", "Link.__init__", defArgs s_Link___init__, defBody s_Link___init__, defScope s_Link___init__, [.non], []⟩
abbrev s_Link___eq__ : Stmt := cb (top 73) 1
abbrev NN_Link___eq__ : List Str := ["self", "other"]
theorem sc_Link___eq__ : FnScope NN_Link___eq__ ["self", "other"] (defScope s_Link___eq__) := ⟨rfl, rfl, rfl, by decide +kernel, rfl, by decide +kernel, by decide +kernel⟩
def a_Link___eq__ : DefA := ⟨fun K => ma K (ga K "Link") "__eq__", "__eq__", "Link.__eq__", defArgs s_Link___eq__, defBody s_Link___eq__, defScope s_Link___eq__, [], []⟩
abbrev s_Link_is_true : Stmt := cb (top 73) 2
abbrev NN_Link_is_true : List Str := ["self"]
theorem sc_Link_is_true : FnScope NN_Link_is_true ["self"] (defScope s_Link_is_true) := ⟨rfl, rfl, rfl, by decide +kernel, rfl, by decide +kernel, by decide +kernel⟩
def a_Link_is_true : DefA := ⟨fun K => wf K (ga K "Link") "property" "is_true", "is_true", "Link.is_true", defArgs s_Link_is_true, defBody s_Link_is_true, defScope s_Link_is_true, [], []⟩
abbrev s_Link_does_nothing : Stmt := cb (top 73) 4
abbrev NN_Link_does_nothing : List Str := ["self"]
theorem sc_Link_does_nothing : FnScope NN_Link_does_nothing ["self"] (defScope s_Link_does_nothing) := ⟨rfl, rfl, rfl, by decide +kernel, rfl, by decide +kernel, by decide +kernel⟩
def a_Link_does_nothing : DefA := ⟨fun K => wf K (ga K "Link") "property" "does_nothing", "does_nothing", "Link.does_nothing", defArgs s_Link_does_nothing, defBody s_Link_does_nothing, defScope s_Link_does_nothing, [], []⟩
abbrev s_Link_undone_link : Stmt := cb (top 73) 5
abbrev NN_Link_undone_link : List Str := ["self"]
theorem sc_Link_undone_link : FnScope NN_Link_undone_link ["self"] (defScope s_Link_undone_link) := ⟨rfl, rfl, rfl, by decide +kernel, rfl, by decide +kernel, by decide +kernel⟩
def a_Link_undone_link : DefA := ⟨fun K => ma K (ga K "Link") "undone_link", "undone_link", "Link.undone_link", defArgs s_Link_undone_link, defBody s_Link_undone_link, defScope s_Link_undone_link, [], []⟩
abbrev s_made_link : Stmt := top 74
abbrev NN_made_link : List Str := ["part", "length", "func", "made"]
theorem sc_made_link : FnScope NN_made_link ["part", "length", "func"] (defScope s_made_link) := ⟨rfl, rfl, rfl, by decide +kernel, rfl, by decide +kernel, by decide +kernel⟩
def a_made_link : DefA := ⟨fun K => ga K "made_link", "made_link", "made_link", defArgs s_made_link, defBody s_made_link, defScope s_made_link, [], []⟩
abbrev s_joined_links : Stmt := top 77
abbrev NN_joined_links : List Str := ["k", "q"]
theorem sc_joined_links : FnScope NN_joined_links ["k", "q"] (defScope s_joined_links) := ⟨rfl, rfl, rfl, by decide +kernel, rfl, by decide +kernel, by decide +kernel⟩
def a_joined_links : DefA := ⟨fun K => ga K "joined_links", "joined_links", "joined_links", defArgs s_joined_links, defBody s_joined_links, defScope s_joined_links, [], []⟩
abbrev s_all_true : Stmt := top 79
abbrev NN_all_true : List Str := ["row"]
theorem sc_all_true : FnScope NN_all_true ["row"] (defScope s_all_true) := ⟨rfl, rfl, rfl, by decide +kernel, rfl, by decide +kernel, by decide +kernel⟩
def a_all_true : DefA := ⟨fun K => ga K "all_true", "all_true", "all_true", defArgs s_all_true, defBody s_all_true, defScope s_all_true, [], []⟩
abbrev s_onto_line : Stmt := top 86
abbrev NN_onto_line : List Str := ["part"]
theorem sc_onto_line : FnScope NN_onto_line ["part"] (defScope s_onto_line) := ⟨rfl, rfl, rfl, by decide +kernel, rfl, by decide +kernel, by decide +kernel⟩
def a_onto_line : DefA := ⟨fun K => ga K "onto_line", "onto_line", "onto_line", defArgs s_onto_line, defBody s_onto_line, defScope s_onto_line, [], []⟩
abbrev s_check_far : Stmt := top 87
abbrev NN_check_far : List Str := ["k"]
theorem sc_check_far : FnScope NN_check_far ["k"] (defScope s_check_far) := ⟨rfl, rfl, rfl, by decide +kernel, rfl, by decide +kernel, by decide +kernel⟩
def a_check_far : DefA := ⟨fun K => ga K "check_far", "check_far", "check_far", defArgs s_check_far, defBody s_check_far, defScope s_check_far, [], []⟩
abbrev s_two_raised : Stmt := top 88
abbrev NN_two_raised : List Str := ["k", "made"]
theorem sc_two_raised : FnScope NN_two_raised ["k"] (defScope s_two_raised) := ⟨rfl, rfl, rfl, by decide +kernel, rfl, by decide +kernel, by decide +kernel⟩
def a_two_raised : DefA := ⟨fun K => ga K "two_raised", "two_raised", "two_raised", defArgs s_two_raised, defBody s_two_raised, defScope s_two_raised, [], []⟩
abbrev s_unit_of : Stmt := top 89
abbrev NN_unit_of : List Str := ["row", "made", "link"]
theorem sc_unit_of : FnScope NN_unit_of ["row"] (defScope s_unit_of) := ⟨rfl, rfl, rfl, by decide +kernel, rfl, by decide +kernel, by decide +kernel⟩
def a_unit_of : DefA := ⟨fun K => ga K "unit_of", "unit_of", "unit_of", defArgs s_unit_of, defBody s_unit_of, defScope s_unit_of, [], []⟩
abbrev s_row_flow : Stmt := top 90
abbrev NN_row_flow : List Str := ["flows", "row", "made", "link", "steps"]
theorem sc_row_flow : FnScope NN_row_flow ["flows", "row"] (defScope s_row_flow) := ⟨rfl, rfl, rfl, by decide +kernel, rfl, by decide +kernel, by decide +kernel⟩
def a_row_flow : DefA := ⟨fun K => ga K "row_flow", "row_flow", "row_flow", defArgs s_row_flow, defBody s_row_flow, defScope s_row_flow, [], []⟩
abbrev s_Flows___init__ : Stmt := cb (top 91) 0
abbrev NN_Flows___init__ : List Str := ["self", "unit", "power"]
theorem sc_Flows___init__ : FnScope NN_Flows___init__ ["self", "unit", "power"] (defScope s_Flows___init__) := ⟨rfl, rfl, rfl, by decide +kernel, rfl, by decide +kernel, by decide +kernel⟩
def a_Flows___init__ : DefA := ⟨fun K => ma K (ga K "Flows") "__init__", "__init__", "Flows.__init__", defArgs s_Flows___init__, defBody s_Flows___init__, defScope s_Flows___init__, [], []⟩
abbrev s_Flows_flow : Stmt := cb (top 91) 1
abbrev NN_Flows_flow : List Str := ["self", "part", "count", "factor"]
theorem sc_Flows_flow : FnScope NN_Flows_flow ["self", "part", "count"] (defScope s_Flows_flow) := ⟨rfl, rfl, rfl, by decide +kernel, rfl, by decide +kernel, by decide +kernel⟩
def a_Flows_flow : DefA := ⟨fun K => ma K (ga K "Flows") "flow", "flow", "Flows.flow", defArgs s_Flows_flow, defBody s_Flows_flow, defScope s_Flows_flow, [], []⟩
abbrev s_Flows___call__ : Stmt := cb (top 91) 2
abbrev NN_Flows___call__ : List Str := ["self", "row"]
theorem sc_Flows___call__ : FnScope NN_Flows___call__ ["self", "row"] (defScope s_Flows___call__) := ⟨rfl, rfl, rfl, by decide +kernel, rfl, by decide +kernel, by decide +kernel⟩
def a_Flows___call__ : DefA := ⟨fun K => ma K (ga K "Flows") "__call__", "__call__", "Flows.__call__", defArgs s_Flows___call__, defBody s_Flows___call__, defScope s_Flows___call__, [], []⟩
abbrev s_check_links : Stmt := top 94
abbrev NN_check_links : List Str := ["thing", "k"]
theorem sc_check_links : FnScope NN_check_links ["thing"] (defScope s_check_links) := ⟨rfl, rfl, rfl, by decide +kernel, rfl, by decide +kernel, by decide +kernel⟩
def a_check_links : DefA := ⟨fun K => ga K "check_links", "check_links", "check_links", defArgs s_check_links, defBody s_check_links, defScope s_check_links, [], []⟩
abbrev s_Row___init__ : Stmt := cb (top 95) 0
abbrev NN_Row___init__ : List Str := ["self", "links"]
theorem sc_Row___init__ : FnScope NN_Row___init__ ["self", "links"] (defScope s_Row___init__) := ⟨rfl, rfl, rfl, by decide +kernel, rfl, by decide +kernel, by decide +kernel⟩
def a_Row___init__ : DefA := ⟨fun K => ma K (ga K "Row") "__init__", "__init__", "Row.__init__", defArgs s_Row___init__, defBody s_Row___init__, defScope s_Row___init__, [], []⟩
abbrev s_Row___add__ : Stmt := cb (top 95) 5
abbrev NN_Row___add__ : List Str := ["self", "other"]
theorem sc_Row___add__ : FnScope NN_Row___add__ ["self", "other"] (defScope s_Row___add__) := ⟨rfl, rfl, rfl, by decide +kernel, rfl, by decide +kernel, by decide +kernel⟩
def a_Row___add__ : DefA := ⟨fun K => ma K (ga K "Row") "__add__", "__add__", "Row.__add__", defArgs s_Row___add__, defBody s_Row___add__, defScope s_Row___add__, [], []⟩
abbrev s_Row_is_true : Stmt := cb (top 95) 6
abbrev NN_Row_is_true : List Str := ["self", "k"]
theorem sc_Row_is_true : FnScope NN_Row_is_true ["self"] (defScope s_Row_is_true) := ⟨rfl, rfl, rfl, by decide +kernel, rfl, by decide +kernel, by decide +kernel⟩
def a_Row_is_true : DefA := ⟨fun K => wf K (ga K "Row") "property" "is_true", "is_true", "Row.is_true", defArgs s_Row_is_true, defBody s_Row_is_true, defScope s_Row_is_true, [], []⟩
abbrev s_Row_undone : Stmt := cb (top 95) 9
abbrev NN_Row_undone : List Str := ["self", "k"]
theorem sc_Row_undone : FnScope NN_Row_undone ["self"] (defScope s_Row_undone) := ⟨rfl, rfl, rfl, by decide +kernel, rfl, by decide +kernel, by decide +kernel⟩
def a_Row_undone : DefA := ⟨fun K => ma K (ga K "Row") "undone", "undone", "Row.undone", defArgs s_Row_undone, defBody s_Row_undone, defScope s_Row_undone, [], []⟩
abbrev s_Row_repeated : Stmt := cb (top 95) 12
abbrev NN_Row_repeated : List Str := ["self", "many"]
theorem sc_Row_repeated : FnScope NN_Row_repeated ["self", "many"] (defScope s_Row_repeated) := ⟨rfl, rfl, rfl, by decide +kernel, rfl, by decide +kernel, by decide +kernel⟩
def a_Row_repeated : DefA := ⟨fun K => ma K (ga K "Row") "repeated", "repeated", "Row.repeated", defArgs s_Row_repeated, defBody s_Row_repeated, defScope s_Row_repeated, [], []⟩
abbrev s_Row_shadow : Stmt := cb (top 95) 13
abbrev NN_Row_shadow : List Str := ["self", "part", "made", "k"]
theorem sc_Row_shadow : FnScope NN_Row_shadow ["self", "part"] (defScope s_Row_shadow) := ⟨rfl, rfl, rfl, by decide +kernel, rfl, by decide +kernel, by decide +kernel⟩
def a_Row_shadow : DefA := ⟨fun K => ma K (ga K "Row") "shadow", "shadow", "Row.shadow", defArgs s_Row_shadow, defBody s_Row_shadow, defScope s_Row_shadow, [], []⟩
abbrev s_reduced : Stmt := top 98
abbrev NN_reduced : List Str := ["row", "heap", "k", "now"]
theorem sc_reduced : FnScope NN_reduced ["row"] (defScope s_reduced) := ⟨rfl, rfl, rfl, by decide +kernel, rfl, by decide +kernel, by decide +kernel⟩
def a_reduced : DefA := ⟨fun K => ga K "reduced", "reduced", "reduced", defArgs s_reduced, defBody s_reduced, defScope s_reduced, [], []⟩
abbrev s_rounded : Stmt := top 99
abbrev NN_rounded : List Str := ["row", "links", "ahead", "last", "front"]
theorem sc_rounded : FnScope NN_rounded ["row"] (defScope s_rounded) := ⟨rfl, rfl, rfl, by decide +kernel, rfl, by decide +kernel, by decide +kernel⟩
def a_rounded : DefA := ⟨fun K => ga K "rounded", "rounded", "rounded", defArgs s_rounded, defBody s_rounded, defScope s_rounded, [], []⟩
abbrev s_turns_of : Stmt := top 100
abbrev NN_turns_of : List Str := ["row", "j"]
theorem sc_turns_of : FnScope NN_turns_of ["row"] (defScope s_turns_of) := ⟨rfl, rfl, rfl, by decide +kernel, rfl, by decide +kernel, by decide +kernel⟩
def a_turns_of : DefA := ⟨fun K => ga K "turns_of", "turns_of", "turns_of", defArgs s_turns_of, defBody s_turns_of, defScope s_turns_of, [], []⟩
abbrev s_is_forward : Stmt := top 102
abbrev NN_is_forward : List Str := ["row", "link"]
theorem sc_is_forward : FnScope NN_is_forward ["row"] (defScope s_is_forward) := ⟨rfl, rfl, rfl, by decide +kernel, rfl, by decide +kernel, by decide +kernel⟩
def a_is_forward : DefA := ⟨fun K => ga K "is_forward", "is_forward", "is_forward", defArgs s_is_forward, defBody s_is_forward, defScope s_is_forward, [], []⟩
abbrev s_grows_once : Stmt := top 103
abbrev NN_grows_once : List Str := ["row"]
theorem sc_grows_once : FnScope NN_grows_once ["row"] (defScope s_grows_once) := ⟨rfl, rfl, rfl, by decide +kernel, rfl, by decide +kernel, by decide +kernel⟩
def a_grows_once : DefA := ⟨fun K => ga K "grows_once", "grows_once", "grows_once", defArgs s_grows_once, defBody s_grows_once, defScope s_grows_once, [], []⟩
abbrev s_grows_ever : Stmt := top 104
abbrev NN_grows_ever : List Str := ["row"]
theorem sc_grows_ever : FnScope NN_grows_ever ["row"] (defScope s_grows_ever) := ⟨rfl, rfl, rfl, by decide +kernel, rfl, by decide +kernel, by decide +kernel⟩
def a_grows_ever : DefA := ⟨fun K => ga K "grows_ever", "grows_ever", "grows_ever", defArgs s_grows_ever, defBody s_grows_ever, defScope s_grows_ever, [], []⟩
abbrev s_fitting_flows : Stmt := top 105
abbrev NN_fitting_flows : List Str := ["row", "whole", "power", "link", "top", "bottom"]
theorem sc_fitting_flows : FnScope NN_fitting_flows ["row"] (defScope s_fitting_flows) := ⟨rfl, rfl, rfl, by decide +kernel, rfl, by decide +kernel, by decide +kernel⟩
def a_fitting_flows : DefA := ⟨fun K => ga K "fitting_flows", "fitting_flows", "fitting_flows", defArgs s_fitting_flows, defBody s_fitting_flows, defScope s_fitting_flows, [], []⟩
abbrev s_flows_ever : Stmt := top 106
abbrev NN_flows_ever : List Str := ["row", "short"]
theorem sc_flows_ever : FnScope NN_flows_ever ["row"] (defScope s_flows_ever) := ⟨rfl, rfl, rfl, by decide +kernel, rfl, by decide +kernel, by decide +kernel⟩
def a_flows_ever : DefA := ⟨fun K => ga K "flows_ever", "flows_ever", "flows_ever", defArgs s_flows_ever, defBody s_flows_ever, defScope s_flows_ever, [], []⟩
abbrev s_wrapped : Stmt := top 108
abbrev NN_wrapped : List Str := ["u", "R"]
theorem sc_wrapped : FnScope NN_wrapped ["u", "R"] (defScope s_wrapped) := ⟨rfl, rfl, rfl, by decide +kernel, rfl, by decide +kernel, by decide +kernel⟩
def a_wrapped : DefA := ⟨fun K => ga K "wrapped", "wrapped", "wrapped", defArgs s_wrapped, defBody s_wrapped, defScope s_wrapped, [], []⟩
abbrev s_l_well : Stmt := top 110
abbrev NN_l_well : List Str := ["script", "rows", "spot", "cell", "mixed", "turn"]
theorem sc_l_well : FnScope NN_l_well ["script"] (defScope s_l_well) := ⟨rfl, rfl, rfl, by decide +kernel, rfl, by decide +kernel, by decide +kernel⟩
def a_l_well : DefA := ⟨fun K => ga K "_law_well", "_law_well", "_law_well", defArgs s_l_well, defBody s_l_well, defScope s_l_well, [], []⟩
abbrev s_l_pull : Stmt := top 111
abbrev NN_l_pull : List Str := ["well", "top", "spot", "rows"]
theorem sc_l_pull : FnScope NN_l_pull ["well", "top"] (defScope s_l_pull) := ⟨rfl, rfl, rfl, by decide +kernel, rfl, by decide +kernel, by decide +kernel⟩
def a_l_pull : DefA := ⟨fun K => ga K "_law_pull", "_law_pull", "_law_pull", defArgs s_l_pull, defBody s_l_pull, defScope s_l_pull, [], []⟩
abbrev s_l_gcd : Stmt := top 112
abbrev NN_l_gcd : List Str := ["one", "two", "big", "small", "turn", "rest"]
theorem sc_l_gcd : FnScope NN_l_gcd ["one", "two"] (defScope s_l_gcd) := ⟨rfl, rfl, rfl, by decide +kernel, rfl, by decide +kernel, by decide +kernel⟩
def a_l_gcd : DefA := ⟨fun K => ga K "_law_gcd", "_law_gcd", "_law_gcd", defArgs s_l_gcd, defBody s_l_gcd, defScope s_l_gcd, [], []⟩
abbrev s_l_frac : Stmt := top 113
abbrev NN_l_frac : List Str := ["top", "bottom", "shared"]
theorem sc_l_frac : FnScope NN_l_frac ["top", "bottom"] (defScope s_l_frac) := ⟨rfl, rfl, rfl, by decide +kernel, rfl, by decide +kernel, by decide +kernel⟩
def a_l_frac : DefA := ⟨fun K => ga K "_law_frac", "_law_frac", "_law_frac", defArgs s_l_frac, defBody s_l_frac, defScope s_l_frac, [], []⟩
abbrev s_l_add : Stmt := top 114
abbrev NN_l_add : List Str := ["one", "two"]
theorem sc_l_add : FnScope NN_l_add ["one", "two"] (defScope s_l_add) := ⟨rfl, rfl, rfl, by decide +kernel, rfl, by decide +kernel, by decide +kernel⟩
def a_l_add : DefA := ⟨fun K => ga K "_law_add", "_law_add", "_law_add", defArgs s_l_add, defBody s_l_add, defScope s_l_add, [], []⟩
abbrev s_l_neg : Stmt := top 115
abbrev NN_l_neg : List Str := ["one"]
theorem sc_l_neg : FnScope NN_l_neg ["one"] (defScope s_l_neg) := ⟨rfl, rfl, rfl, by decide +kernel, rfl, by decide +kernel, by decide +kernel⟩
def a_l_neg : DefA := ⟨fun K => ga K "_law_neg", "_law_neg", "_law_neg", defArgs s_l_neg, defBody s_l_neg, defScope s_l_neg, [], []⟩
abbrev s_l_mul : Stmt := top 116
abbrev NN_l_mul : List Str := ["one", "two"]
theorem sc_l_mul : FnScope NN_l_mul ["one", "two"] (defScope s_l_mul) := ⟨rfl, rfl, rfl, by decide +kernel, rfl, by decide +kernel, by decide +kernel⟩
def a_l_mul : DefA := ⟨fun K => ga K "_law_mul", "_law_mul", "_law_mul", defArgs s_l_mul, defBody s_l_mul, defScope s_l_mul, [], []⟩
abbrev s_l_whole : Stmt := top 117
abbrev NN_l_whole : List Str := ["told"]
theorem sc_l_whole : FnScope NN_l_whole ["told"] (defScope s_l_whole) := ⟨rfl, rfl, rfl, by decide +kernel, rfl, by decide +kernel, by decide +kernel⟩
def a_l_whole : DefA := ⟨fun K => ga K "_law_whole", "_law_whole", "_law_whole", defArgs s_l_whole, defBody s_l_whole, defScope s_l_whole, [], []⟩
abbrev s_l_is_frac : Stmt := top 118
abbrev NN_l_is_frac : List Str := ["told"]
theorem sc_l_is_frac : FnScope NN_l_is_frac ["told"] (defScope s_l_is_frac) := ⟨rfl, rfl, rfl, by decide +kernel, rfl, by decide +kernel, by decide +kernel⟩
def a_l_is_frac : DefA := ⟨fun K => ga K "_law_is_frac", "_law_is_frac", "_law_is_frac", defArgs s_l_is_frac, defBody s_l_is_frac, defScope s_l_is_frac, [], []⟩
abbrev s_l_is_row : Stmt := top 119
abbrev NN_l_is_row : List Str := ["told", "one"]
theorem sc_l_is_row : FnScope NN_l_is_row ["told"] (defScope s_l_is_row) := ⟨rfl, rfl, rfl, by decide +kernel, rfl, by decide +kernel, by decide +kernel⟩
def a_l_is_row : DefA := ⟨fun K => ga K "_law_is_row", "_law_is_row", "_law_is_row", defArgs s_l_is_row, defBody s_l_is_row, defScope s_l_is_row, [], []⟩
abbrev s_l_trim : Stmt := top 120
abbrev NN_l_trim : List Str := ["row", "size", "turn", "spot"]
theorem sc_l_trim : FnScope NN_l_trim ["row"] (defScope s_l_trim) := ⟨rfl, rfl, rfl, by decide +kernel, rfl, by decide +kernel, by decide +kernel⟩
def a_l_trim : DefA := ⟨fun K => ga K "_law_trim", "_law_trim", "_law_trim", defArgs s_l_trim, defBody s_l_trim, defScope s_l_trim, [], []⟩
abbrev s_l_pmul : Stmt := top 121
abbrev NN_l_pmul : List Str := ["one", "two", "row", "spot", "other"]
theorem sc_l_pmul : FnScope NN_l_pmul ["one", "two"] (defScope s_l_pmul) := ⟨rfl, rfl, rfl, by decide +kernel, rfl, by decide +kernel, by decide +kernel⟩
def a_l_pmul : DefA := ⟨fun K => ga K "_law_pmul", "_law_pmul", "_law_pmul", defArgs s_l_pmul, defBody s_l_pmul, defScope s_l_pmul, [], []⟩
abbrev s_l_row : Stmt := top 122
abbrev NN_l_row : List Str := ["links", "link"]
theorem sc_l_row : FnScope NN_l_row ["links"] (defScope s_l_row) := ⟨rfl, rfl, rfl, by decide +kernel, rfl, by decide +kernel, by decide +kernel⟩
def a_l_row : DefA := ⟨fun K => ga K "_law_row", "_law_row", "_law_row", defArgs s_l_row, defBody s_l_row, defScope s_l_row, [], []⟩
abbrev s_l_reduced : Stmt := top 123
abbrev NN_l_reduced : List Str := ["links", "heap", "link", "now", "last", "num", "den"]
theorem sc_l_reduced : FnScope NN_l_reduced ["links"] (defScope s_l_reduced) := ⟨rfl, rfl, rfl, by decide +kernel, rfl, by decide +kernel, by decide +kernel⟩
def a_l_reduced : DefA := ⟨fun K => ga K "_law_reduced", "_law_reduced", "_law_reduced", defArgs s_l_reduced, defBody s_l_reduced, defScope s_l_reduced, [], []⟩
abbrev s_l_undone : Stmt := top 124
abbrev NN_l_undone : List Str := ["links", "told", "link"]
theorem sc_l_undone : FnScope NN_l_undone ["links"] (defScope s_l_undone) := ⟨rfl, rfl, rfl, by decide +kernel, rfl, by decide +kernel, by decide +kernel⟩
def a_l_undone : DefA := ⟨fun K => ga K "_law_undone", "_law_undone", "_law_undone", defArgs s_l_undone, defBody s_l_undone, defScope s_l_undone, [], []⟩
abbrev s_l_is_link : Stmt := top 125
abbrev NN_l_is_link : List Str := ["told", "link"]
theorem sc_l_is_link : FnScope NN_l_is_link ["told", "link"] (defScope s_l_is_link) := ⟨rfl, rfl, rfl, by decide +kernel, rfl, by decide +kernel, by decide +kernel⟩
def a_l_is_link : DefA := ⟨fun K => ga K "_law_is_link", "_law_is_link", "_law_is_link", defArgs s_l_is_link, defBody s_l_is_link, defScope s_l_is_link, [], []⟩
abbrev s_l_is_links : Stmt := top 126
abbrev NN_l_is_links : List Str := ["told", "links", "spot"]
theorem sc_l_is_links : FnScope NN_l_is_links ["told", "links"] (defScope s_l_is_links) := ⟨rfl, rfl, rfl, by decide +kernel, rfl, by decide +kernel, by decide +kernel⟩
def a_l_is_links : DefA := ⟨fun K => ga K "_law_is_links", "_law_is_links", "_law_is_links", defArgs s_l_is_links, defBody s_l_is_links, defScope s_l_is_links, [], []⟩
abbrev s_l_true : Stmt := top 127
abbrev NN_l_true : List Str := ["part", "time"]
theorem sc_l_true : FnScope NN_l_true ["part", "time"] (defScope s_l_true) := ⟨rfl, rfl, rfl, by decide +kernel, rfl, by decide +kernel, by decide +kernel⟩
def a_l_true : DefA := ⟨fun K => ga K "_law_true", "_law_true", "_law_true", defArgs s_l_true, defBody s_l_true, defScope s_l_true, [], []⟩
abbrev s_l_time : Stmt := top 128
abbrev NN_l_time : List Str := ["well", "top"]
theorem sc_l_time : FnScope NN_l_time ["well"] (defScope s_l_time) := ⟨rfl, rfl, rfl, by decide +kernel, rfl, by decide +kernel, by decide +kernel⟩
def a_l_time : DefA := ⟨fun K => ga K "_law_time", "_law_time", "_law_time", defArgs s_l_time, defBody s_l_time, defScope s_l_time, [], []⟩
abbrev s_l_unit : Stmt := top 129
abbrev NN_l_unit : List Str := ["links", "told", "link"]
theorem sc_l_unit : FnScope NN_l_unit ["links"] (defScope s_l_unit) := ⟨rfl, rfl, rfl, by decide +kernel, rfl, by decide +kernel, by decide +kernel⟩
def a_l_unit : DefA := ⟨fun K => ga K "_law_unit", "_law_unit", "_law_unit", defArgs s_l_unit, defBody s_l_unit, defScope s_l_unit, [], []⟩
abbrev s_l_flow : Stmt := top 130
abbrev NN_l_flow : List Str := ["part", "power", "count", "rows", "bottom", "size", "told", "spot", "other", "across"]
theorem sc_l_flow : FnScope NN_l_flow ["part", "power", "count"] (defScope s_l_flow) := ⟨rfl, rfl, rfl, by decide +kernel, rfl, by decide +kernel, by decide +kernel⟩
def a_l_flow : DefA := ⟨fun K => ga K "_law_flow", "_law_flow", "_law_flow", defArgs s_l_flow, defBody s_l_flow, defScope s_l_flow, [], []⟩
abbrev s_l_flown : Stmt := top 131
abbrev NN_l_flown : List Str := ["links", "unit", "power", "told", "scale", "link", "flow", "fresh", "spot", "other"]
theorem sc_l_flown : FnScope NN_l_flown ["links", "unit", "power"] (defScope s_l_flown) := ⟨rfl, rfl, rfl, by decide +kernel, rfl, by decide +kernel, by decide +kernel⟩
def a_l_flown : DefA := ⟨fun K => ga K "_law_flown", "_law_flown", "_law_flown", defArgs s_l_flown, defBody s_l_flown, defScope s_l_flown, [], []⟩
abbrev s_l_is_matrix : Stmt := top 132
abbrev NN_l_is_matrix : List Str := ["told", "flown", "spot", "other"]
theorem sc_l_is_matrix : FnScope NN_l_is_matrix ["told", "flown"] (defScope s_l_is_matrix) := ⟨rfl, rfl, rfl, by decide +kernel, rfl, by decide +kernel, by decide +kernel⟩
def a_l_is_matrix : DefA := ⟨fun K => ga K "_law_is_matrix", "_law_is_matrix", "_law_is_matrix", defArgs s_l_is_matrix, defBody s_l_is_matrix, defScope s_l_is_matrix, [], []⟩
abbrev s_l_rounded : Stmt := top 133
abbrev NN_l_rounded : List Str := ["links", "heap", "turn", "last", "time"]
theorem sc_l_rounded : FnScope NN_l_rounded ["links"] (defScope s_l_rounded) := ⟨rfl, rfl, rfl, by decide +kernel, rfl, by decide +kernel, by decide +kernel⟩
def a_l_rounded : DefA := ⟨fun K => ga K "_law_rounded", "_law_rounded", "_law_rounded", defArgs s_l_rounded, defBody s_l_rounded, defScope s_l_rounded, [], []⟩
abbrev s_l_some_below : Stmt := top 134
abbrev NN_l_some_below : List Str := ["links", "link"]
theorem sc_l_some_below : FnScope NN_l_some_below ["links"] (defScope s_l_some_below) := ⟨rfl, rfl, rfl, by decide +kernel, rfl, by decide +kernel, by decide +kernel⟩
def a_l_some_below : DefA := ⟨fun K => ga K "_law_some_below", "_law_some_below", "_law_some_below", defArgs s_l_some_below, defBody s_l_some_below, defScope s_l_some_below, [], []⟩
abbrev s_l_drawn : Stmt := top 135
abbrev NN_l_drawn : List Str := ["well", "letters", "most", "kind", "links", "turn", "time", "spot"]
theorem sc_l_drawn : FnScope NN_l_drawn ["well", "letters", "most", "kind"] (defScope s_l_drawn) := ⟨rfl, rfl, rfl, by decide +kernel, rfl, by decide +kernel, by decide +kernel⟩
def a_l_drawn : DefA := ⟨fun K => ga K "_law_drawn", "_law_drawn", "_law_drawn", defArgs s_l_drawn, defBody s_l_drawn, defScope s_l_drawn, [], []⟩
abbrev s_l_split : Stmt := top 136
abbrev NN_l_split : List Str := ["well", "links", "letters", "told", "place", "spot", "pair", "time"]
theorem sc_l_split : FnScope NN_l_split ["well", "links", "letters"] (defScope s_l_split) := ⟨rfl, rfl, rfl, by decide +kernel, rfl, by decide +kernel, by decide +kernel⟩
def a_l_split : DefA := ⟨fun K => ga K "_law_split", "_law_split", "_law_split", defArgs s_l_split, defBody s_l_split, defScope s_l_split, [], []⟩
abbrev s_l_said : Stmt := top 137
abbrev NN_l_said : List Str := ["row", "once", "ever", "first", "second"]
theorem sc_l_said : FnScope NN_l_said ["row", "once", "ever"] (defScope s_l_said) := ⟨rfl, rfl, rfl, by decide +kernel, rfl, by decide +kernel, by decide +kernel⟩
def a_l_said : DefA := ⟨fun K => ga K "_law_said", "_law_said", "_law_said", defArgs s_l_said, defBody s_l_said, defScope s_l_said, [], []⟩
abbrev s_l_flows_told : Stmt := top 138
abbrev NN_l_flows_told : List Str := ["row", "told", "fault"]
theorem sc_l_flows_told : FnScope NN_l_flows_told ["row"] (defScope s_l_flows_told) := ⟨rfl, rfl, rfl, by decide +kernel, rfl, by decide +kernel, by decide +kernel⟩
def a_l_flows_told : DefA := ⟨fun K => ga K "_law_flows_told", "_law_flows_told", "_law_flows_told", defArgs s_l_flows_told, defBody s_l_flows_told, defScope s_l_flows_told, [], []⟩
abbrev s_l_flows_due : Stmt := top 139
abbrev NN_l_flows_due : List Str := ["middle", "unit", "power", "link"]
theorem sc_l_flows_due : FnScope NN_l_flows_due ["middle"] (defScope s_l_flows_due) := ⟨rfl, rfl, rfl, by decide +kernel, rfl, by decide +kernel, by decide +kernel⟩
def a_l_flows_due : DefA := ⟨fun K => ga K "_law_flows_due", "_law_flows_due", "_law_flows_due", defArgs s_l_flows_due, defBody s_l_flows_due, defScope s_l_flows_due, [], []⟩
abbrev s_l_within : Stmt := top 140
abbrev NN_l_within : List Str := ["well", "links", "outer", "letters", "row", "whole", "due", "middle", "ever", "letter", "time", "link", "f", "first", "second"]
theorem sc_l_within : FnScope NN_l_within ["well", "links", "outer", "letters"] (defScope s_l_within) := ⟨rfl, rfl, rfl, by decide +kernel, rfl, by decide +kernel, by decide +kernel⟩
def a_l_within : DefA := ⟨fun K => ga K "_law_within", "_law_within", "_law_within", defArgs s_l_within, defBody s_l_within, defScope s_l_within, [], []⟩
abbrev s_l_others : Stmt := top 141
abbrev NN_l_others : List Str := ["well", "links", "letters", "row", "once", "ever", "turns", "spot", "now", "many", "back"]
theorem sc_l_others : FnScope NN_l_others ["well", "links", "letters"] (defScope s_l_others) := ⟨rfl, rfl, rfl, by decide +kernel, rfl, by decide +kernel, by decide +kernel⟩
def a_l_others : DefA := ⟨fun K => ga K "_law_others", "_law_others", "_law_others", defArgs s_l_others, defBody s_l_others, defScope s_l_others, [], []⟩
abbrev s_l_not_kept : Stmt := top 142
abbrev NN_l_not_kept : List Str := ["well", "spot", "part", "other", "time", "size", "more", "back", "row"]
theorem sc_l_not_kept : FnScope NN_l_not_kept ["well"] (defScope s_l_not_kept) := ⟨rfl, rfl, rfl, by decide +kernel, rfl, by decide +kernel, by decide +kernel⟩
def a_l_not_kept : DefA := ⟨fun K => ga K "_law_not_kept", "_law_not_kept", "_law_not_kept", defArgs s_l_not_kept, defBody s_l_not_kept, defScope s_l_not_kept, [], []⟩
abbrev s_law : Stmt := top 143
abbrev NN_law : List Str := ["script", "well", "letters", "links", "outer"]
theorem sc_law : FnScope NN_law ["script"] (defScope s_law) := ⟨rfl, rfl, rfl, by decide +kernel, rfl, by decide +kernel, by decide +kernel⟩
def a_law : DefA := ⟨fun K => ga K "law", "law", "law", defArgs s_law, defBody s_law, defScope s_law, [], []⟩
abbrev s_TooLarge___init__ : Stmt := cb (top 11) 0
def a_TooLarge___init__ : DefA := ⟨fun K => ma K (ga K "TooLarge") "__init__", "__init__", "TooLarge.__init__", defArgs s_TooLarge___init__, defBody s_TooLarge___init__, defScope s_TooLarge___init__, [], []⟩
def clL : List DefA := [a_TooLarge___init__]
def fnL0 : List DefA := [a_is_whole, a_lowest, a_is_number, a_check_number, a_plus, a_minus, a_product_of, a_over, a_opposite, a_sign_of, a_powered, a_trimmed]
def fnL1 : List DefA := [a_poly, a_cleared, a_poly_times, a_poly_scaled, a_row_plus, a_row_scaled, a_dot, a_flipped, a_times_matrix, a_plus_matrix, a_scaled_matrix, a_divided]
def fnL2 : List DefA := [a_primitive, a_whole_numbers, a_whole_rest, a_common, a_func_form, a_check_sides, a_Func___init__, a_Func_is_one, a_Func___eq__, a_Func___mul__, a_Func_one, a_Func_undone]
def fnL3 : List DefA := [a_coprime_func, a_made_func, a_check_part, a_Link___init__, a_Link___eq__, a_Link_is_true, a_Link_does_nothing, a_Link_undone_link, a_made_link, a_joined_links, a_all_true, a_onto_line]
def fnL4 : List DefA := [a_check_far, a_two_raised, a_unit_of, a_row_flow, a_Flows___init__, a_Flows_flow, a_Flows___call__, a_check_links, a_Row___init__, a_Row___add__, a_Row_is_true, a_Row_undone]
def fnL5 : List DefA := [a_Row_repeated, a_Row_shadow, a_reduced, a_rounded, a_turns_of, a_is_forward, a_grows_once, a_grows_ever, a_fitting_flows, a_flows_ever, a_wrapped, a_l_well]
def fnL6 : List DefA := [a_l_pull, a_l_gcd, a_l_frac, a_l_add, a_l_neg, a_l_mul, a_l_whole, a_l_is_frac, a_l_is_row, a_l_trim, a_l_pmul, a_l_row]
def fnL7 : List DefA := [a_l_reduced, a_l_undone, a_l_is_link, a_l_is_links, a_l_true, a_l_time, a_l_unit, a_l_flow, a_l_flown, a_l_is_matrix, a_l_rounded, a_l_some_below]
def fnL8 : List DefA := [a_l_drawn, a_l_split, a_l_said, a_l_flows_told, a_l_flows_due, a_l_within, a_l_others, a_l_not_kept, a_law]
def fnL : List DefA := fnL0 ++ fnL1 ++ fnL2 ++ fnL3 ++ fnL4 ++ fnL5 ++ fnL6 ++ fnL7 ++ fnL8
def rootL0 : List Str := ["is_whole", "lowest", "is_number", "check_number", "plus", "minus", "product_of", "over", "opposite", "sign_of", "powered", "trimmed"]
def rootL1 : List Str := ["poly", "cleared", "poly_times", "poly_scaled", "row_plus", "row_scaled", "dot", "flipped", "times_matrix", "plus_matrix", "scaled_matrix", "divided"]
def rootL2 : List Str := ["primitive", "whole_numbers", "whole_rest", "common", "func_form", "check_sides", "coprime_func", "made_func", "check_part", "made_link", "joined_links", "all_true"]
def rootL3 : List Str := ["onto_line", "check_far", "two_raised", "unit_of", "row_flow", "check_links", "reduced", "rounded", "turns_of", "is_forward", "grows_once", "grows_ever"]
def rootL4 : List Str := ["fitting_flows", "flows_ever", "wrapped", "_law_well", "_law_pull", "_law_gcd", "_law_frac", "_law_add", "_law_neg", "_law_mul", "_law_whole", "_law_is_frac"]
def rootL5 : List Str := ["_law_is_row", "_law_trim", "_law_pmul", "_law_row", "_law_reduced", "_law_undone", "_law_is_link", "_law_is_links", "_law_true", "_law_time", "_law_unit", "_law_flow"]
def rootL6 : List Str := ["_law_flown", "_law_is_matrix", "_law_rounded", "_law_some_below", "_law_drawn", "_law_split", "_law_said", "_law_flows_told", "_law_flows_due", "_law_within", "_law_others", "_law_not_kept"]
def rootL7 : List Str := ["law", "Func", "Link", "Flows", "Row", "ZERO", "ONE", "FIGURES_BOUND", "LETTERS", "FLOW_BOUND", "LINK_BOUND", "PLANE"]
def rootL8 : List Str := ["ONTO_A", "ONTO_B", "ONTO_C", "TooLarge"]
def rootL : List Str := rootL0 ++ rootL1 ++ rootL2 ++ rootL3 ++ rootL4 ++ rootL5 ++ rootL6 ++ rootL7 ++ rootL8
def x_0 : Fr → Bool := fun K => (Fa.glo "is_whole").ok K
def x_1 : Fr → Bool := fun K => (Fa.glo "lowest").ok K
def x_2 : Fr → Bool := fun K => (Fa.glo "is_number").ok K
def x_3 : Fr → Bool := fun K => (Fa.glo "check_number").ok K
def x_4 : Fr → Bool := fun K => (Fa.glo "plus").ok K
def x_5 : Fr → Bool := fun K => (Fa.glo "minus").ok K
def x_6 : Fr → Bool := fun K => (Fa.glo "product_of").ok K
def x_7 : Fr → Bool := fun K => (Fa.glo "over").ok K
def x_8 : Fr → Bool := fun K => (Fa.glo "opposite").ok K
def x_9 : Fr → Bool := fun K => (Fa.glo "sign_of").ok K
def x_10 : Fr → Bool := fun K => (Fa.glo "powered").ok K
def x_11 : Fr → Bool := fun K => (Fa.glo "trimmed").ok K
def x_12 : Fr → Bool := fun K => (Fa.glo "poly").ok K
def x_13 : Fr → Bool := fun K => (Fa.glo "cleared").ok K
def x_14 : Fr → Bool := fun K => (Fa.glo "poly_times").ok K
def x_15 : Fr → Bool := fun K => (Fa.glo "poly_scaled").ok K
def x_16 : Fr → Bool := fun K => (Fa.glo "row_plus").ok K
def x_17 : Fr → Bool := fun K => (Fa.glo "row_scaled").ok K
def x_18 : Fr → Bool := fun K => (Fa.glo "dot").ok K
def x_19 : Fr → Bool := fun K => (Fa.glo "flipped").ok K
def x_20 : Fr → Bool := fun K => (Fa.glo "times_matrix").ok K
def x_21 : Fr → Bool := fun K => (Fa.glo "plus_matrix").ok K
def x_22 : Fr → Bool := fun K => (Fa.glo "scaled_matrix").ok K
def x_23 : Fr → Bool := fun K => (Fa.glo "divided").ok K
def x_24 : Fr → Bool := fun K => (Fa.glo "primitive").ok K
def x_25 : Fr → Bool := fun K => (Fa.glo "whole_numbers").ok K
def x_26 : Fr → Bool := fun K => (Fa.glo "whole_rest").ok K
def x_27 : Fr → Bool := fun K => (Fa.glo "common").ok K
def x_28 : Fr → Bool := fun K => (Fa.glo "func_form").ok K
def x_29 : Fr → Bool := fun K => (Fa.glo "check_sides").ok K
def x_30 : Fr → Bool := fun K => (Fa.mkr "Func").ok K
def x_31 : Fr → Bool := fun K => propB K "Func" "is_one"
def x_32 : Fr → Bool := fun K => (Fa.meth "Func" "__eq__").ok K
def x_33 : Fr → Bool := fun K => (Fa.meth "Func" "__mul__").ok K
def x_34 : Fr → Bool := fun K => smB K "Func" "one"
def x_35 : Fr → Bool := fun K => (Fa.meth "Func" "undone").ok K
def x_36 : Fr → Bool := fun K => (Fa.glo "coprime_func").ok K
def x_37 : Fr → Bool := fun K => (Fa.glo "made_func").ok K
def x_38 : Fr → Bool := fun K => (Fa.glo "check_part").ok K
def x_39 : Fr → Bool := fun K => (Fa.mkr "Link").ok K
def x_40 : Fr → Bool := fun K => (Fa.meth "Link" "__eq__").ok K
def x_41 : Fr → Bool := fun K => propB K "Link" "is_true"
def x_42 : Fr → Bool := fun K => propB K "Link" "does_nothing"
def x_43 : Fr → Bool := fun K => (Fa.meth "Link" "undone_link").ok K
def x_44 : Fr → Bool := fun K => (Fa.glo "made_link").ok K
def x_45 : Fr → Bool := fun K => (Fa.glo "joined_links").ok K
def x_46 : Fr → Bool := fun K => (Fa.glo "all_true").ok K
def x_47 : Fr → Bool := fun K => (Fa.glo "onto_line").ok K
def x_48 : Fr → Bool := fun K => (Fa.glo "check_far").ok K
def x_49 : Fr → Bool := fun K => (Fa.glo "two_raised").ok K
def x_50 : Fr → Bool := fun K => (Fa.glo "unit_of").ok K
def x_51 : Fr → Bool := fun K => (Fa.glo "row_flow").ok K
def x_52 : Fr → Bool := fun K => (Fa.mkr "Flows").ok K
def x_53 : Fr → Bool := fun K => (Fa.meth "Flows" "flow").ok K
def x_54 : Fr → Bool := fun K => (Fa.meth "Flows" "__call__").ok K
def x_55 : Fr → Bool := fun K => (Fa.glo "check_links").ok K
def x_56 : Fr → Bool := fun K => (Fa.mkr "Row").ok K
def x_57 : Fr → Bool := fun K => (Fa.meth "Row" "__add__").ok K
def x_58 : Fr → Bool := fun K => propB K "Row" "is_true"
def x_59 : Fr → Bool := fun K => (Fa.meth "Row" "undone").ok K
def x_60 : Fr → Bool := fun K => (Fa.meth "Row" "repeated").ok K
def x_61 : Fr → Bool := fun K => (Fa.meth "Row" "shadow").ok K
def x_62 : Fr → Bool := fun K => (Fa.glo "reduced").ok K
def x_63 : Fr → Bool := fun K => (Fa.glo "rounded").ok K
def x_64 : Fr → Bool := fun K => (Fa.glo "turns_of").ok K
def x_65 : Fr → Bool := fun K => (Fa.glo "is_forward").ok K
def x_66 : Fr → Bool := fun K => (Fa.glo "grows_once").ok K
def x_67 : Fr → Bool := fun K => (Fa.glo "grows_ever").ok K
def x_68 : Fr → Bool := fun K => (Fa.glo "fitting_flows").ok K
def x_69 : Fr → Bool := fun K => (Fa.glo "flows_ever").ok K
def x_70 : Fr → Bool := fun K => (Fa.glo "wrapped").ok K
def x_71 : Fr → Bool := fun K => (Fa.glo "_law_well").ok K
def x_72 : Fr → Bool := fun K => (Fa.glo "_law_pull").ok K
def x_73 : Fr → Bool := fun K => (Fa.glo "_law_gcd").ok K
def x_74 : Fr → Bool := fun K => (Fa.glo "_law_frac").ok K
def x_75 : Fr → Bool := fun K => (Fa.glo "_law_add").ok K
def x_76 : Fr → Bool := fun K => (Fa.glo "_law_neg").ok K
def x_77 : Fr → Bool := fun K => (Fa.glo "_law_mul").ok K
def x_78 : Fr → Bool := fun K => (Fa.glo "_law_whole").ok K
def x_79 : Fr → Bool := fun K => (Fa.glo "_law_is_frac").ok K
def x_80 : Fr → Bool := fun K => (Fa.glo "_law_is_row").ok K
def x_81 : Fr → Bool := fun K => (Fa.glo "_law_trim").ok K
def x_82 : Fr → Bool := fun K => (Fa.glo "_law_pmul").ok K
def x_83 : Fr → Bool := fun K => (Fa.glo "_law_row").ok K
def x_84 : Fr → Bool := fun K => (Fa.glo "_law_reduced").ok K
def x_85 : Fr → Bool := fun K => (Fa.glo "_law_undone").ok K
def x_86 : Fr → Bool := fun K => (Fa.glo "_law_is_link").ok K
def x_87 : Fr → Bool := fun K => (Fa.glo "_law_is_links").ok K
def x_88 : Fr → Bool := fun K => (Fa.glo "_law_true").ok K
def x_89 : Fr → Bool := fun K => (Fa.glo "_law_time").ok K
def x_90 : Fr → Bool := fun K => (Fa.glo "_law_unit").ok K
def x_91 : Fr → Bool := fun K => (Fa.glo "_law_flow").ok K
def x_92 : Fr → Bool := fun K => (Fa.glo "_law_flown").ok K
def x_93 : Fr → Bool := fun K => (Fa.glo "_law_is_matrix").ok K
def x_94 : Fr → Bool := fun K => (Fa.glo "_law_rounded").ok K
def x_95 : Fr → Bool := fun K => (Fa.glo "_law_some_below").ok K
def x_96 : Fr → Bool := fun K => (Fa.glo "_law_drawn").ok K
def x_97 : Fr → Bool := fun K => (Fa.glo "_law_split").ok K
def x_98 : Fr → Bool := fun K => (Fa.glo "_law_said").ok K
def x_99 : Fr → Bool := fun K => (Fa.glo "_law_flows_told").ok K
def x_100 : Fr → Bool := fun K => (Fa.glo "_law_flows_due").ok K
def x_101 : Fr → Bool := fun K => (Fa.glo "_law_within").ok K
def x_102 : Fr → Bool := fun K => (Fa.glo "_law_others").ok K
def x_103 : Fr → Bool := fun K => (Fa.glo "_law_not_kept").ok K
def x_104 : Fr → Bool := fun K => (Fa.glo "law").ok K
def x_105 : Fr → Bool := fun K => (Fa.glo "Func").ok K
def x_106 : Fr → Bool := fun K => (Fa.cls "Func").ok K
def x_107 : Fr → Bool := fun K => ownB K "Func"
def x_108 : Fr → Bool := fun K => (Fa.noat "Func" "num").ok K
def x_109 : Fr → Bool := fun K => (Fa.noat "Func" "den").ok K
def x_110 : Fr → Bool := fun K => (Fa.glo "Link").ok K
def x_111 : Fr → Bool := fun K => (Fa.cls "Link").ok K
def x_112 : Fr → Bool := fun K => ownB K "Link"
def x_113 : Fr → Bool := fun K => (Fa.noat "Link" "part").ok K
def x_114 : Fr → Bool := fun K => (Fa.noat "Link" "length").ok K
def x_115 : Fr → Bool := fun K => (Fa.noat "Link" "func").ok K
def x_116 : Fr → Bool := fun K => (Fa.glo "Flows").ok K
def x_117 : Fr → Bool := fun K => (Fa.cls "Flows").ok K
def x_118 : Fr → Bool := fun K => ownB K "Flows"
def x_119 : Fr → Bool := fun K => (Fa.noat "Flows" "unit").ok K
def x_120 : Fr → Bool := fun K => (Fa.noat "Flows" "power").ok K
def x_121 : Fr → Bool := fun K => (Fa.glo "Row").ok K
def x_122 : Fr → Bool := fun K => (Fa.cls "Row").ok K
def x_123 : Fr → Bool := fun K => ownB K "Row"
def x_124 : Fr → Bool := fun K => (Fa.noat "Row" "links").ok K
def x_125 : Fr → Bool := fun K => neB K "Link"
def x_126 : Fr → Bool := fun K => catB K "Func" "MOST" (.int 40)
def x_127 : Fr → Bool := fun K => konB K "ZERO" (zD)
def x_128 : Fr → Bool := fun K => konB K "ONE" (oD)
def x_129 : Fr → Bool := fun K => konB K "FIGURES_BOUND" (.int 10000000000000000000000000000000000000000000000000000000000000000000000000000000000000000000000000000000000000000000000000000000000000000000000000000000000000000000000000000000000000000000000000000000000000000000000000000000000000000000000000000000000000000000000000000000000000000000000000000000000000000000000000000000000000000000000000000000000000000000000000000000000000000000000000000000000000000)
def x_130 : Fr → Bool := fun K => konB K "LETTERS" (.str "abc")
def x_131 : Fr → Bool := fun K => konB K "FLOW_BOUND" (.int 3000)
def x_132 : Fr → Bool := fun K => konB K "LINK_BOUND" (.int 600)
def x_133 : Fr → Bool := fun K => konB K "PLANE" (.tup [.tup [oD, zD], .tup [zD, oD]])
def x_134 : Fr → Bool := fun K => konB K "ONTO_A" (.tup [.tup [oD, zD], .tup [zD, zD]])
def x_135 : Fr → Bool := fun K => konB K "ONTO_B" (.tup [.tup [qD 1 2, qD 1 2], .tup [qD 1 2, qD 1 2]])
def x_136 : Fr → Bool := fun K => konB K "ONTO_C" (.tup [.tup [qD 4 5, qD 2 5], .tup [qD 2 5, qD 1 5]])
def x_137 : Fr → Bool := fun K => bltB K "gcd" "math.gcd"
def x_138 : Fr → Bool := fun K => bltB K "lcm" "math.lcm"
def x_139 : Fr → Bool := fun K => (Fa.free "range").ok K
def x_140 : Fr → Bool := fun K => (Fa.free "len").ok K
def x_141 : Fr → Bool := fun K => (Fa.free "isinstance").ok K
def x_142 : Fr → Bool := fun K => (Fa.free "tuple").ok K
def x_143 : Fr → Bool := fun K => (Fa.free "list").ok K
def x_144 : Fr → Bool := fun K => (Fa.free "int").ok K
def x_145 : Fr → Bool := fun K => (Fa.free "abs").ok K
def x_146 : Fr → Bool := fun K => (Fa.free "max").ok K
def x_147 : Fr → Bool := fun K => (Fa.free "all").ok K
def x_148 : Fr → Bool := fun K => (Fa.free "bool").ok K
def x_149 : Fr → Bool := fun K => (Fa.free "str").ok K
def x_150 : Fr → Bool := fun K => tlB PySem.Challenge.pw_trueruns_k86_whole_outer_rows_and_growin.main.file K
def exL0 : List (Fr → Bool) := [x_0, x_1, x_2, x_3, x_4, x_5, x_6, x_7, x_8, x_9, x_10, x_11]
def exL1 : List (Fr → Bool) := [x_12, x_13, x_14, x_15, x_16, x_17, x_18, x_19, x_20, x_21, x_22, x_23]
def exL2 : List (Fr → Bool) := [x_24, x_25, x_26, x_27, x_28, x_29, x_30, x_31, x_32, x_33, x_34, x_35]
def exL3 : List (Fr → Bool) := [x_36, x_37, x_38, x_39, x_40, x_41, x_42, x_43, x_44, x_45, x_46, x_47]
def exL4 : List (Fr → Bool) := [x_48, x_49, x_50, x_51, x_52, x_53, x_54, x_55, x_56, x_57, x_58, x_59]
def exL5 : List (Fr → Bool) := [x_60, x_61, x_62, x_63, x_64, x_65, x_66, x_67, x_68, x_69, x_70, x_71]
def exL6 : List (Fr → Bool) := [x_72, x_73, x_74, x_75, x_76, x_77, x_78, x_79, x_80, x_81, x_82, x_83]
def exL7 : List (Fr → Bool) := [x_84, x_85, x_86, x_87, x_88, x_89, x_90, x_91, x_92, x_93, x_94, x_95]
def exL8 : List (Fr → Bool) := [x_96, x_97, x_98, x_99, x_100, x_101, x_102, x_103, x_104, x_105, x_106, x_107]
def exL9 : List (Fr → Bool) := [x_108, x_109, x_110, x_111, x_112, x_113, x_114, x_115, x_116, x_117, x_118, x_119]
def exL10 : List (Fr → Bool) := [x_120, x_121, x_122, x_123, x_124, x_125, x_126, x_127, x_128, x_129, x_130, x_131]
def exL11 : List (Fr → Bool) := [x_132, x_133, x_134, x_135, x_136, x_137, x_138, x_139, x_140, x_141, x_142, x_143]
def exL12 : List (Fr → Bool) := [x_144, x_145, x_146, x_147, x_148, x_149, x_150]
def exL : List (Fr → Bool) := exL0 ++ exL1 ++ exL2 ++ exL3 ++ exL4 ++ exL5 ++ exL6 ++ exL7 ++ exL8 ++ exL9 ++ exL10 ++ exL11 ++ exL12
def ex (K : Fr) : Bool := exL.all fun f => f K
structure Tx (K : Fr) (mg : Str → Option Value) : Prop where
  c : SaysZ ex fnL K
  x : ∃ h : Heap, K.In h ∧ h.Ns mainGlobals mg
section
variable {K : Fr} {mg : Str → Option Value}
theorem Tx.fact (T : Tx K mg) (i : Nat) {f : Fr → Bool} (h : exL[i]? = some f := by rfl) : f K = true := List.all_eq_true.mp T.c.exOk f (List.mem_of_getElem? h)
theorem Tx.g_is_whole (T : Tx K mg) : mg "is_whole" = some (.ref (ga K "is_whole")) := He.glo_ok T.x.choose_spec.1 T.x.choose_spec.2 (T.fact 0 (f := x_0))
theorem Tx.g_lowest (T : Tx K mg) : mg "lowest" = some (.ref (ga K "lowest")) := He.glo_ok T.x.choose_spec.1 T.x.choose_spec.2 (T.fact 1 (f := x_1))
theorem Tx.g_is_number (T : Tx K mg) : mg "is_number" = some (.ref (ga K "is_number")) := He.glo_ok T.x.choose_spec.1 T.x.choose_spec.2 (T.fact 2 (f := x_2))
theorem Tx.g_check_number (T : Tx K mg) : mg "check_number" = some (.ref (ga K "check_number")) := He.glo_ok T.x.choose_spec.1 T.x.choose_spec.2 (T.fact 3 (f := x_3))
theorem Tx.g_plus (T : Tx K mg) : mg "plus" = some (.ref (ga K "plus")) := He.glo_ok T.x.choose_spec.1 T.x.choose_spec.2 (T.fact 4 (f := x_4))
theorem Tx.g_minus (T : Tx K mg) : mg "minus" = some (.ref (ga K "minus")) := He.glo_ok T.x.choose_spec.1 T.x.choose_spec.2 (T.fact 5 (f := x_5))
theorem Tx.g_product_of (T : Tx K mg) : mg "product_of" = some (.ref (ga K "product_of")) := He.glo_ok T.x.choose_spec.1 T.x.choose_spec.2 (T.fact 6 (f := x_6))
theorem Tx.g_over (T : Tx K mg) : mg "over" = some (.ref (ga K "over")) := He.glo_ok T.x.choose_spec.1 T.x.choose_spec.2 (T.fact 7 (f := x_7))
theorem Tx.g_opposite (T : Tx K mg) : mg "opposite" = some (.ref (ga K "opposite")) := He.glo_ok T.x.choose_spec.1 T.x.choose_spec.2 (T.fact 8 (f := x_8))
theorem Tx.g_sign_of (T : Tx K mg) : mg "sign_of" = some (.ref (ga K "sign_of")) := He.glo_ok T.x.choose_spec.1 T.x.choose_spec.2 (T.fact 9 (f := x_9))
theorem Tx.g_powered (T : Tx K mg) : mg "powered" = some (.ref (ga K "powered")) := He.glo_ok T.x.choose_spec.1 T.x.choose_spec.2 (T.fact 10 (f := x_10))
theorem Tx.g_trimmed (T : Tx K mg) : mg "trimmed" = some (.ref (ga K "trimmed")) := He.glo_ok T.x.choose_spec.1 T.x.choose_spec.2 (T.fact 11 (f := x_11))
theorem Tx.g_poly (T : Tx K mg) : mg "poly" = some (.ref (ga K "poly")) := He.glo_ok T.x.choose_spec.1 T.x.choose_spec.2 (T.fact 12 (f := x_12))
theorem Tx.g_cleared (T : Tx K mg) : mg "cleared" = some (.ref (ga K "cleared")) := He.glo_ok T.x.choose_spec.1 T.x.choose_spec.2 (T.fact 13 (f := x_13))
theorem Tx.g_poly_times (T : Tx K mg) : mg "poly_times" = some (.ref (ga K "poly_times")) := He.glo_ok T.x.choose_spec.1 T.x.choose_spec.2 (T.fact 14 (f := x_14))
theorem Tx.g_poly_scaled (T : Tx K mg) : mg "poly_scaled" = some (.ref (ga K "poly_scaled")) := He.glo_ok T.x.choose_spec.1 T.x.choose_spec.2 (T.fact 15 (f := x_15))
theorem Tx.g_row_plus (T : Tx K mg) : mg "row_plus" = some (.ref (ga K "row_plus")) := He.glo_ok T.x.choose_spec.1 T.x.choose_spec.2 (T.fact 16 (f := x_16))
theorem Tx.g_row_scaled (T : Tx K mg) : mg "row_scaled" = some (.ref (ga K "row_scaled")) := He.glo_ok T.x.choose_spec.1 T.x.choose_spec.2 (T.fact 17 (f := x_17))
theorem Tx.g_dot (T : Tx K mg) : mg "dot" = some (.ref (ga K "dot")) := He.glo_ok T.x.choose_spec.1 T.x.choose_spec.2 (T.fact 18 (f := x_18))
theorem Tx.g_flipped (T : Tx K mg) : mg "flipped" = some (.ref (ga K "flipped")) := He.glo_ok T.x.choose_spec.1 T.x.choose_spec.2 (T.fact 19 (f := x_19))
theorem Tx.g_times_matrix (T : Tx K mg) : mg "times_matrix" = some (.ref (ga K "times_matrix")) := He.glo_ok T.x.choose_spec.1 T.x.choose_spec.2 (T.fact 20 (f := x_20))
theorem Tx.g_plus_matrix (T : Tx K mg) : mg "plus_matrix" = some (.ref (ga K "plus_matrix")) := He.glo_ok T.x.choose_spec.1 T.x.choose_spec.2 (T.fact 21 (f := x_21))
theorem Tx.g_scaled_matrix (T : Tx K mg) : mg "scaled_matrix" = some (.ref (ga K "scaled_matrix")) := He.glo_ok T.x.choose_spec.1 T.x.choose_spec.2 (T.fact 22 (f := x_22))
theorem Tx.g_divided (T : Tx K mg) : mg "divided" = some (.ref (ga K "divided")) := He.glo_ok T.x.choose_spec.1 T.x.choose_spec.2 (T.fact 23 (f := x_23))
theorem Tx.g_primitive (T : Tx K mg) : mg "primitive" = some (.ref (ga K "primitive")) := He.glo_ok T.x.choose_spec.1 T.x.choose_spec.2 (T.fact 24 (f := x_24))
theorem Tx.g_whole_numbers (T : Tx K mg) : mg "whole_numbers" = some (.ref (ga K "whole_numbers")) := He.glo_ok T.x.choose_spec.1 T.x.choose_spec.2 (T.fact 25 (f := x_25))
theorem Tx.g_whole_rest (T : Tx K mg) : mg "whole_rest" = some (.ref (ga K "whole_rest")) := He.glo_ok T.x.choose_spec.1 T.x.choose_spec.2 (T.fact 26 (f := x_26))
theorem Tx.g_common (T : Tx K mg) : mg "common" = some (.ref (ga K "common")) := He.glo_ok T.x.choose_spec.1 T.x.choose_spec.2 (T.fact 27 (f := x_27))
theorem Tx.g_func_form (T : Tx K mg) : mg "func_form" = some (.ref (ga K "func_form")) := He.glo_ok T.x.choose_spec.1 T.x.choose_spec.2 (T.fact 28 (f := x_28))
theorem Tx.g_check_sides (T : Tx K mg) : mg "check_sides" = some (.ref (ga K "check_sides")) := He.glo_ok T.x.choose_spec.1 T.x.choose_spec.2 (T.fact 29 (f := x_29))
theorem Tx.mk_Func (T : Tx K mg) : Mk K (ga K "Func") (ma K (ga K "Func") "__init__") := He.mkr_ok (T.fact 30 (f := x_30))
theorem Tx.q_Func_is_one (T : Tx K mg) : PropOf K (ga K "Func") "is_one" (ma K (ga K "Func") "is_one") (wf K (ga K "Func") "property" "is_one") := prop_ok (T.fact 31 (f := x_31))
theorem Tx.q_Func___eq__ (T : Tx K mg) : Meth K (ga K "Func") "__eq__" (ma K (ga K "Func") "__eq__") := He.meth_ok (T.fact 32 (f := x_32))
theorem Tx.q_Func___mul__ (T : Tx K mg) : Meth K (ga K "Func") "__mul__" (ma K (ga K "Func") "__mul__") := He.meth_ok (T.fact 33 (f := x_33))
theorem Tx.q_Func_one (T : Tx K mg) : smB K "Func" "one" = true := (T.fact 34 (f := x_34))
theorem Tx.q_Func_undone (T : Tx K mg) : Meth K (ga K "Func") "undone" (ma K (ga K "Func") "undone") := He.meth_ok (T.fact 35 (f := x_35))
theorem Tx.g_coprime_func (T : Tx K mg) : mg "coprime_func" = some (.ref (ga K "coprime_func")) := He.glo_ok T.x.choose_spec.1 T.x.choose_spec.2 (T.fact 36 (f := x_36))
theorem Tx.g_made_func (T : Tx K mg) : mg "made_func" = some (.ref (ga K "made_func")) := He.glo_ok T.x.choose_spec.1 T.x.choose_spec.2 (T.fact 37 (f := x_37))
theorem Tx.g_check_part (T : Tx K mg) : mg "check_part" = some (.ref (ga K "check_part")) := He.glo_ok T.x.choose_spec.1 T.x.choose_spec.2 (T.fact 38 (f := x_38))
theorem Tx.mk_Link (T : Tx K mg) : Mk K (ga K "Link") (ma K (ga K "Link") "__init__") := He.mkr_ok (T.fact 39 (f := x_39))
theorem Tx.q_Link___eq__ (T : Tx K mg) : Meth K (ga K "Link") "__eq__" (ma K (ga K "Link") "__eq__") := He.meth_ok (T.fact 40 (f := x_40))
theorem Tx.q_Link_is_true (T : Tx K mg) : PropOf K (ga K "Link") "is_true" (ma K (ga K "Link") "is_true") (wf K (ga K "Link") "property" "is_true") := prop_ok (T.fact 41 (f := x_41))
theorem Tx.q_Link_does_nothing (T : Tx K mg) : PropOf K (ga K "Link") "does_nothing" (ma K (ga K "Link") "does_nothing") (wf K (ga K "Link") "property" "does_nothing") := prop_ok (T.fact 42 (f := x_42))
theorem Tx.q_Link_undone_link (T : Tx K mg) : Meth K (ga K "Link") "undone_link" (ma K (ga K "Link") "undone_link") := He.meth_ok (T.fact 43 (f := x_43))
theorem Tx.g_made_link (T : Tx K mg) : mg "made_link" = some (.ref (ga K "made_link")) := He.glo_ok T.x.choose_spec.1 T.x.choose_spec.2 (T.fact 44 (f := x_44))
theorem Tx.g_joined_links (T : Tx K mg) : mg "joined_links" = some (.ref (ga K "joined_links")) := He.glo_ok T.x.choose_spec.1 T.x.choose_spec.2 (T.fact 45 (f := x_45))
theorem Tx.g_all_true (T : Tx K mg) : mg "all_true" = some (.ref (ga K "all_true")) := He.glo_ok T.x.choose_spec.1 T.x.choose_spec.2 (T.fact 46 (f := x_46))
theorem Tx.g_onto_line (T : Tx K mg) : mg "onto_line" = some (.ref (ga K "onto_line")) := He.glo_ok T.x.choose_spec.1 T.x.choose_spec.2 (T.fact 47 (f := x_47))
theorem Tx.g_check_far (T : Tx K mg) : mg "check_far" = some (.ref (ga K "check_far")) := He.glo_ok T.x.choose_spec.1 T.x.choose_spec.2 (T.fact 48 (f := x_48))
theorem Tx.g_two_raised (T : Tx K mg) : mg "two_raised" = some (.ref (ga K "two_raised")) := He.glo_ok T.x.choose_spec.1 T.x.choose_spec.2 (T.fact 49 (f := x_49))
theorem Tx.g_unit_of (T : Tx K mg) : mg "unit_of" = some (.ref (ga K "unit_of")) := He.glo_ok T.x.choose_spec.1 T.x.choose_spec.2 (T.fact 50 (f := x_50))
theorem Tx.g_row_flow (T : Tx K mg) : mg "row_flow" = some (.ref (ga K "row_flow")) := He.glo_ok T.x.choose_spec.1 T.x.choose_spec.2 (T.fact 51 (f := x_51))
theorem Tx.mk_Flows (T : Tx K mg) : Mk K (ga K "Flows") (ma K (ga K "Flows") "__init__") := He.mkr_ok (T.fact 52 (f := x_52))
theorem Tx.q_Flows_flow (T : Tx K mg) : Meth K (ga K "Flows") "flow" (ma K (ga K "Flows") "flow") := He.meth_ok (T.fact 53 (f := x_53))
theorem Tx.q_Flows___call__ (T : Tx K mg) : Meth K (ga K "Flows") "__call__" (ma K (ga K "Flows") "__call__") := He.meth_ok (T.fact 54 (f := x_54))
theorem Tx.g_check_links (T : Tx K mg) : mg "check_links" = some (.ref (ga K "check_links")) := He.glo_ok T.x.choose_spec.1 T.x.choose_spec.2 (T.fact 55 (f := x_55))
theorem Tx.mk_Row (T : Tx K mg) : Mk K (ga K "Row") (ma K (ga K "Row") "__init__") := He.mkr_ok (T.fact 56 (f := x_56))
theorem Tx.q_Row___add__ (T : Tx K mg) : Meth K (ga K "Row") "__add__" (ma K (ga K "Row") "__add__") := He.meth_ok (T.fact 57 (f := x_57))
theorem Tx.q_Row_is_true (T : Tx K mg) : PropOf K (ga K "Row") "is_true" (ma K (ga K "Row") "is_true") (wf K (ga K "Row") "property" "is_true") := prop_ok (T.fact 58 (f := x_58))
theorem Tx.q_Row_undone (T : Tx K mg) : Meth K (ga K "Row") "undone" (ma K (ga K "Row") "undone") := He.meth_ok (T.fact 59 (f := x_59))
theorem Tx.q_Row_repeated (T : Tx K mg) : Meth K (ga K "Row") "repeated" (ma K (ga K "Row") "repeated") := He.meth_ok (T.fact 60 (f := x_60))
theorem Tx.q_Row_shadow (T : Tx K mg) : Meth K (ga K "Row") "shadow" (ma K (ga K "Row") "shadow") := He.meth_ok (T.fact 61 (f := x_61))
theorem Tx.g_reduced (T : Tx K mg) : mg "reduced" = some (.ref (ga K "reduced")) := He.glo_ok T.x.choose_spec.1 T.x.choose_spec.2 (T.fact 62 (f := x_62))
theorem Tx.g_rounded (T : Tx K mg) : mg "rounded" = some (.ref (ga K "rounded")) := He.glo_ok T.x.choose_spec.1 T.x.choose_spec.2 (T.fact 63 (f := x_63))
theorem Tx.g_turns_of (T : Tx K mg) : mg "turns_of" = some (.ref (ga K "turns_of")) := He.glo_ok T.x.choose_spec.1 T.x.choose_spec.2 (T.fact 64 (f := x_64))
theorem Tx.g_is_forward (T : Tx K mg) : mg "is_forward" = some (.ref (ga K "is_forward")) := He.glo_ok T.x.choose_spec.1 T.x.choose_spec.2 (T.fact 65 (f := x_65))
theorem Tx.g_grows_once (T : Tx K mg) : mg "grows_once" = some (.ref (ga K "grows_once")) := He.glo_ok T.x.choose_spec.1 T.x.choose_spec.2 (T.fact 66 (f := x_66))
theorem Tx.g_grows_ever (T : Tx K mg) : mg "grows_ever" = some (.ref (ga K "grows_ever")) := He.glo_ok T.x.choose_spec.1 T.x.choose_spec.2 (T.fact 67 (f := x_67))
theorem Tx.g_fitting_flows (T : Tx K mg) : mg "fitting_flows" = some (.ref (ga K "fitting_flows")) := He.glo_ok T.x.choose_spec.1 T.x.choose_spec.2 (T.fact 68 (f := x_68))
theorem Tx.g_flows_ever (T : Tx K mg) : mg "flows_ever" = some (.ref (ga K "flows_ever")) := He.glo_ok T.x.choose_spec.1 T.x.choose_spec.2 (T.fact 69 (f := x_69))
theorem Tx.g_wrapped (T : Tx K mg) : mg "wrapped" = some (.ref (ga K "wrapped")) := He.glo_ok T.x.choose_spec.1 T.x.choose_spec.2 (T.fact 70 (f := x_70))
theorem Tx.g_l_well (T : Tx K mg) : mg "_law_well" = some (.ref (ga K "_law_well")) := He.glo_ok T.x.choose_spec.1 T.x.choose_spec.2 (T.fact 71 (f := x_71))
theorem Tx.g_l_pull (T : Tx K mg) : mg "_law_pull" = some (.ref (ga K "_law_pull")) := He.glo_ok T.x.choose_spec.1 T.x.choose_spec.2 (T.fact 72 (f := x_72))
theorem Tx.g_l_gcd (T : Tx K mg) : mg "_law_gcd" = some (.ref (ga K "_law_gcd")) := He.glo_ok T.x.choose_spec.1 T.x.choose_spec.2 (T.fact 73 (f := x_73))
theorem Tx.g_l_frac (T : Tx K mg) : mg "_law_frac" = some (.ref (ga K "_law_frac")) := He.glo_ok T.x.choose_spec.1 T.x.choose_spec.2 (T.fact 74 (f := x_74))
theorem Tx.g_l_add (T : Tx K mg) : mg "_law_add" = some (.ref (ga K "_law_add")) := He.glo_ok T.x.choose_spec.1 T.x.choose_spec.2 (T.fact 75 (f := x_75))
theorem Tx.g_l_neg (T : Tx K mg) : mg "_law_neg" = some (.ref (ga K "_law_neg")) := He.glo_ok T.x.choose_spec.1 T.x.choose_spec.2 (T.fact 76 (f := x_76))
theorem Tx.g_l_mul (T : Tx K mg) : mg "_law_mul" = some (.ref (ga K "_law_mul")) := He.glo_ok T.x.choose_spec.1 T.x.choose_spec.2 (T.fact 77 (f := x_77))
theorem Tx.g_l_whole (T : Tx K mg) : mg "_law_whole" = some (.ref (ga K "_law_whole")) := He.glo_ok T.x.choose_spec.1 T.x.choose_spec.2 (T.fact 78 (f := x_78))
theorem Tx.g_l_is_frac (T : Tx K mg) : mg "_law_is_frac" = some (.ref (ga K "_law_is_frac")) := He.glo_ok T.x.choose_spec.1 T.x.choose_spec.2 (T.fact 79 (f := x_79))
theorem Tx.g_l_is_row (T : Tx K mg) : mg "_law_is_row" = some (.ref (ga K "_law_is_row")) := He.glo_ok T.x.choose_spec.1 T.x.choose_spec.2 (T.fact 80 (f := x_80))
theorem Tx.g_l_trim (T : Tx K mg) : mg "_law_trim" = some (.ref (ga K "_law_trim")) := He.glo_ok T.x.choose_spec.1 T.x.choose_spec.2 (T.fact 81 (f := x_81))
theorem Tx.g_l_pmul (T : Tx K mg) : mg "_law_pmul" = some (.ref (ga K "_law_pmul")) := He.glo_ok T.x.choose_spec.1 T.x.choose_spec.2 (T.fact 82 (f := x_82))
theorem Tx.g_l_row (T : Tx K mg) : mg "_law_row" = some (.ref (ga K "_law_row")) := He.glo_ok T.x.choose_spec.1 T.x.choose_spec.2 (T.fact 83 (f := x_83))
theorem Tx.g_l_reduced (T : Tx K mg) : mg "_law_reduced" = some (.ref (ga K "_law_reduced")) := He.glo_ok T.x.choose_spec.1 T.x.choose_spec.2 (T.fact 84 (f := x_84))
theorem Tx.g_l_undone (T : Tx K mg) : mg "_law_undone" = some (.ref (ga K "_law_undone")) := He.glo_ok T.x.choose_spec.1 T.x.choose_spec.2 (T.fact 85 (f := x_85))
theorem Tx.g_l_is_link (T : Tx K mg) : mg "_law_is_link" = some (.ref (ga K "_law_is_link")) := He.glo_ok T.x.choose_spec.1 T.x.choose_spec.2 (T.fact 86 (f := x_86))
theorem Tx.g_l_is_links (T : Tx K mg) : mg "_law_is_links" = some (.ref (ga K "_law_is_links")) := He.glo_ok T.x.choose_spec.1 T.x.choose_spec.2 (T.fact 87 (f := x_87))
theorem Tx.g_l_true (T : Tx K mg) : mg "_law_true" = some (.ref (ga K "_law_true")) := He.glo_ok T.x.choose_spec.1 T.x.choose_spec.2 (T.fact 88 (f := x_88))
theorem Tx.g_l_time (T : Tx K mg) : mg "_law_time" = some (.ref (ga K "_law_time")) := He.glo_ok T.x.choose_spec.1 T.x.choose_spec.2 (T.fact 89 (f := x_89))
theorem Tx.g_l_unit (T : Tx K mg) : mg "_law_unit" = some (.ref (ga K "_law_unit")) := He.glo_ok T.x.choose_spec.1 T.x.choose_spec.2 (T.fact 90 (f := x_90))
theorem Tx.g_l_flow (T : Tx K mg) : mg "_law_flow" = some (.ref (ga K "_law_flow")) := He.glo_ok T.x.choose_spec.1 T.x.choose_spec.2 (T.fact 91 (f := x_91))
theorem Tx.g_l_flown (T : Tx K mg) : mg "_law_flown" = some (.ref (ga K "_law_flown")) := He.glo_ok T.x.choose_spec.1 T.x.choose_spec.2 (T.fact 92 (f := x_92))
theorem Tx.g_l_is_matrix (T : Tx K mg) : mg "_law_is_matrix" = some (.ref (ga K "_law_is_matrix")) := He.glo_ok T.x.choose_spec.1 T.x.choose_spec.2 (T.fact 93 (f := x_93))
theorem Tx.g_l_rounded (T : Tx K mg) : mg "_law_rounded" = some (.ref (ga K "_law_rounded")) := He.glo_ok T.x.choose_spec.1 T.x.choose_spec.2 (T.fact 94 (f := x_94))
theorem Tx.g_l_some_below (T : Tx K mg) : mg "_law_some_below" = some (.ref (ga K "_law_some_below")) := He.glo_ok T.x.choose_spec.1 T.x.choose_spec.2 (T.fact 95 (f := x_95))
theorem Tx.g_l_drawn (T : Tx K mg) : mg "_law_drawn" = some (.ref (ga K "_law_drawn")) := He.glo_ok T.x.choose_spec.1 T.x.choose_spec.2 (T.fact 96 (f := x_96))
theorem Tx.g_l_split (T : Tx K mg) : mg "_law_split" = some (.ref (ga K "_law_split")) := He.glo_ok T.x.choose_spec.1 T.x.choose_spec.2 (T.fact 97 (f := x_97))
theorem Tx.g_l_said (T : Tx K mg) : mg "_law_said" = some (.ref (ga K "_law_said")) := He.glo_ok T.x.choose_spec.1 T.x.choose_spec.2 (T.fact 98 (f := x_98))
theorem Tx.g_l_flows_told (T : Tx K mg) : mg "_law_flows_told" = some (.ref (ga K "_law_flows_told")) := He.glo_ok T.x.choose_spec.1 T.x.choose_spec.2 (T.fact 99 (f := x_99))
theorem Tx.g_l_flows_due (T : Tx K mg) : mg "_law_flows_due" = some (.ref (ga K "_law_flows_due")) := He.glo_ok T.x.choose_spec.1 T.x.choose_spec.2 (T.fact 100 (f := x_100))
theorem Tx.g_l_within (T : Tx K mg) : mg "_law_within" = some (.ref (ga K "_law_within")) := He.glo_ok T.x.choose_spec.1 T.x.choose_spec.2 (T.fact 101 (f := x_101))
theorem Tx.g_l_others (T : Tx K mg) : mg "_law_others" = some (.ref (ga K "_law_others")) := He.glo_ok T.x.choose_spec.1 T.x.choose_spec.2 (T.fact 102 (f := x_102))
theorem Tx.g_l_not_kept (T : Tx K mg) : mg "_law_not_kept" = some (.ref (ga K "_law_not_kept")) := He.glo_ok T.x.choose_spec.1 T.x.choose_spec.2 (T.fact 103 (f := x_103))
theorem Tx.g_law (T : Tx K mg) : mg "law" = some (.ref (ga K "law")) := He.glo_ok T.x.choose_spec.1 T.x.choose_spec.2 (T.fact 104 (f := x_104))
theorem Tx.g_Func (T : Tx K mg) : mg "Func" = some (.ref (ga K "Func")) := He.glo_ok T.x.choose_spec.1 T.x.choose_spec.2 (T.fact 105 (f := x_105))
theorem Tx.c_Func (T : Tx K mg) : Cls K (ga K "Func") := He.cls_ok (T.fact 106 (f := x_106))
theorem Tx.o_Func (T : Tx K mg) : OwnC K (ga K "Func") := own_ok (T.fact 107 (f := x_107))
theorem Tx.n_Func_num (T : Tx K mg) : NoAttr K (ga K "Func") "num" := He.noat_ok (T.fact 108 (f := x_108))
theorem Tx.n_Func_den (T : Tx K mg) : NoAttr K (ga K "Func") "den" := He.noat_ok (T.fact 109 (f := x_109))
theorem Tx.g_Link (T : Tx K mg) : mg "Link" = some (.ref (ga K "Link")) := He.glo_ok T.x.choose_spec.1 T.x.choose_spec.2 (T.fact 110 (f := x_110))
theorem Tx.c_Link (T : Tx K mg) : Cls K (ga K "Link") := He.cls_ok (T.fact 111 (f := x_111))
theorem Tx.o_Link (T : Tx K mg) : OwnC K (ga K "Link") := own_ok (T.fact 112 (f := x_112))
theorem Tx.n_Link_part (T : Tx K mg) : NoAttr K (ga K "Link") "part" := He.noat_ok (T.fact 113 (f := x_113))
theorem Tx.n_Link_length (T : Tx K mg) : NoAttr K (ga K "Link") "length" := He.noat_ok (T.fact 114 (f := x_114))
theorem Tx.n_Link_func (T : Tx K mg) : NoAttr K (ga K "Link") "func" := He.noat_ok (T.fact 115 (f := x_115))
theorem Tx.g_Flows (T : Tx K mg) : mg "Flows" = some (.ref (ga K "Flows")) := He.glo_ok T.x.choose_spec.1 T.x.choose_spec.2 (T.fact 116 (f := x_116))
theorem Tx.c_Flows (T : Tx K mg) : Cls K (ga K "Flows") := He.cls_ok (T.fact 117 (f := x_117))
theorem Tx.o_Flows (T : Tx K mg) : OwnC K (ga K "Flows") := own_ok (T.fact 118 (f := x_118))
theorem Tx.n_Flows_unit (T : Tx K mg) : NoAttr K (ga K "Flows") "unit" := He.noat_ok (T.fact 119 (f := x_119))
theorem Tx.n_Flows_power (T : Tx K mg) : NoAttr K (ga K "Flows") "power" := He.noat_ok (T.fact 120 (f := x_120))
theorem Tx.g_Row (T : Tx K mg) : mg "Row" = some (.ref (ga K "Row")) := He.glo_ok T.x.choose_spec.1 T.x.choose_spec.2 (T.fact 121 (f := x_121))
theorem Tx.c_Row (T : Tx K mg) : Cls K (ga K "Row") := He.cls_ok (T.fact 122 (f := x_122))
theorem Tx.o_Row (T : Tx K mg) : OwnC K (ga K "Row") := own_ok (T.fact 123 (f := x_123))
theorem Tx.n_Row_links (T : Tx K mg) : NoAttr K (ga K "Row") "links" := He.noat_ok (T.fact 124 (f := x_124))
theorem Tx.ne_Link (T : Tx K mg) : NeF K (ga K "Link") := ne_ok T.o_Link (T.fact 125 (f := x_125))
theorem Tx.a_Func_MOST (T : Tx K mg) : Cat K mg "Func" "MOST" (.int 40) := cat_ok T.o_Func T.g_Func (T.fact 126 (f := x_126))
theorem Tx.k_ZERO (T : Tx K mg) : Kon K mg "ZERO" (zD) := kon_ok T.x.choose_spec.1 T.x.choose_spec.2 (T.fact 127 (f := x_127))
theorem Tx.k_ONE (T : Tx K mg) : Kon K mg "ONE" (oD) := kon_ok T.x.choose_spec.1 T.x.choose_spec.2 (T.fact 128 (f := x_128))
theorem Tx.k_FIGURES_BOUND (T : Tx K mg) : Kon K mg "FIGURES_BOUND" (.int 10000000000000000000000000000000000000000000000000000000000000000000000000000000000000000000000000000000000000000000000000000000000000000000000000000000000000000000000000000000000000000000000000000000000000000000000000000000000000000000000000000000000000000000000000000000000000000000000000000000000000000000000000000000000000000000000000000000000000000000000000000000000000000000000000000000000000000) := kon_ok T.x.choose_spec.1 T.x.choose_spec.2 (T.fact 129 (f := x_129))
theorem Tx.k_LETTERS (T : Tx K mg) : Kon K mg "LETTERS" (.str "abc") := kon_ok T.x.choose_spec.1 T.x.choose_spec.2 (T.fact 130 (f := x_130))
theorem Tx.k_FLOW_BOUND (T : Tx K mg) : Kon K mg "FLOW_BOUND" (.int 3000) := kon_ok T.x.choose_spec.1 T.x.choose_spec.2 (T.fact 131 (f := x_131))
theorem Tx.k_LINK_BOUND (T : Tx K mg) : Kon K mg "LINK_BOUND" (.int 600) := kon_ok T.x.choose_spec.1 T.x.choose_spec.2 (T.fact 132 (f := x_132))
theorem Tx.k_PLANE (T : Tx K mg) : Kon K mg "PLANE" (.tup [.tup [oD, zD], .tup [zD, oD]]) := kon_ok T.x.choose_spec.1 T.x.choose_spec.2 (T.fact 133 (f := x_133))
theorem Tx.k_ONTO_A (T : Tx K mg) : Kon K mg "ONTO_A" (.tup [.tup [oD, zD], .tup [zD, zD]]) := kon_ok T.x.choose_spec.1 T.x.choose_spec.2 (T.fact 134 (f := x_134))
theorem Tx.k_ONTO_B (T : Tx K mg) : Kon K mg "ONTO_B" (.tup [.tup [qD 1 2, qD 1 2], .tup [qD 1 2, qD 1 2]]) := kon_ok T.x.choose_spec.1 T.x.choose_spec.2 (T.fact 135 (f := x_135))
theorem Tx.k_ONTO_C (T : Tx K mg) : Kon K mg "ONTO_C" (.tup [.tup [qD 4 5, qD 2 5], .tup [qD 2 5, qD 1 5]]) := kon_ok T.x.choose_spec.1 T.x.choose_spec.2 (T.fact 136 (f := x_136))
theorem Tx.g_gcd (T : Tx K mg) : mg "gcd" = some (.builtin "math.gcd") := blt_ok T.x.choose_spec.1 T.x.choose_spec.2 (T.fact 137 (f := x_137))
theorem Tx.g_lcm (T : Tx K mg) : mg "lcm" = some (.builtin "math.lcm") := blt_ok T.x.choose_spec.1 T.x.choose_spec.2 (T.fact 138 (f := x_138))
theorem Tx.b_range (T : Tx K mg) : mg "range" = none := He.free_ok T.x.choose_spec.1 T.x.choose_spec.2 (T.fact 139 (f := x_139))
theorem Tx.b_len (T : Tx K mg) : mg "len" = none := He.free_ok T.x.choose_spec.1 T.x.choose_spec.2 (T.fact 140 (f := x_140))
theorem Tx.b_isinstance (T : Tx K mg) : mg "isinstance" = none := He.free_ok T.x.choose_spec.1 T.x.choose_spec.2 (T.fact 141 (f := x_141))
theorem Tx.b_tuple (T : Tx K mg) : mg "tuple" = none := He.free_ok T.x.choose_spec.1 T.x.choose_spec.2 (T.fact 142 (f := x_142))
theorem Tx.b_list (T : Tx K mg) : mg "list" = none := He.free_ok T.x.choose_spec.1 T.x.choose_spec.2 (T.fact 143 (f := x_143))
theorem Tx.b_int (T : Tx K mg) : mg "int" = none := He.free_ok T.x.choose_spec.1 T.x.choose_spec.2 (T.fact 144 (f := x_144))
theorem Tx.b_abs (T : Tx K mg) : mg "abs" = none := He.free_ok T.x.choose_spec.1 T.x.choose_spec.2 (T.fact 145 (f := x_145))
theorem Tx.b_max (T : Tx K mg) : mg "max" = none := He.free_ok T.x.choose_spec.1 T.x.choose_spec.2 (T.fact 146 (f := x_146))
theorem Tx.b_all (T : Tx K mg) : mg "all" = none := He.free_ok T.x.choose_spec.1 T.x.choose_spec.2 (T.fact 147 (f := x_147))
theorem Tx.b_bool (T : Tx K mg) : mg "bool" = none := He.free_ok T.x.choose_spec.1 T.x.choose_spec.2 (T.fact 148 (f := x_148))
theorem Tx.b_str (T : Tx K mg) : mg "str" = none := He.free_ok T.x.choose_spec.1 T.x.choose_spec.2 (T.fact 149 (f := x_149))
theorem Tx.i_Func (T : Tx K mg) : IsC K mg "Func" (ga K "Func") := T.o_Func.is T.c_Func T.g_Func
theorem Tx.f_Func_num (T : Tx K mg) : Fs K (ga K "Func") ["num", "den"] "num" 0 := ⟨T.c_Func, T.n_Func_num, fun ds h => match ds, h with | [_, _], _ => rfl⟩
theorem Tx.f_Func_den (T : Tx K mg) : Fs K (ga K "Func") ["num", "den"] "den" 1 := ⟨T.c_Func, T.n_Func_den, fun ds h => match ds, h with | [_, _], _ => rfl⟩
theorem Tx.i_Link (T : Tx K mg) : IsC K mg "Link" (ga K "Link") := T.o_Link.is T.c_Link T.g_Link
theorem Tx.f_Link_part (T : Tx K mg) : Fs K (ga K "Link") ["part", "length", "func"] "part" 0 := ⟨T.c_Link, T.n_Link_part, fun ds h => match ds, h with | [_, _, _], _ => rfl⟩
theorem Tx.f_Link_length (T : Tx K mg) : Fs K (ga K "Link") ["part", "length", "func"] "length" 1 := ⟨T.c_Link, T.n_Link_length, fun ds h => match ds, h with | [_, _, _], _ => rfl⟩
theorem Tx.f_Link_func (T : Tx K mg) : Fs K (ga K "Link") ["part", "length", "func"] "func" 2 := ⟨T.c_Link, T.n_Link_func, fun ds h => match ds, h with | [_, _, _], _ => rfl⟩
theorem Tx.i_Flows (T : Tx K mg) : IsC K mg "Flows" (ga K "Flows") := T.o_Flows.is T.c_Flows T.g_Flows
theorem Tx.f_Flows_unit (T : Tx K mg) : Fs K (ga K "Flows") ["unit", "power"] "unit" 0 := ⟨T.c_Flows, T.n_Flows_unit, fun ds h => match ds, h with | [_, _], _ => rfl⟩
theorem Tx.f_Flows_power (T : Tx K mg) : Fs K (ga K "Flows") ["unit", "power"] "power" 1 := ⟨T.c_Flows, T.n_Flows_power, fun ds h => match ds, h with | [_, _], _ => rfl⟩
theorem Tx.i_Row (T : Tx K mg) : IsC K mg "Row" (ga K "Row") := T.o_Row.is T.c_Row T.g_Row
theorem Tx.f_Row_links (T : Tx K mg) : Fs K (ga K "Row") ["links"] "links" 0 := ⟨T.c_Row, T.n_Row_links, fun ds h => match ds, h with | [_], _ => rfl⟩
theorem Tx.d_is_whole (T : Tx K mg) : ∃ fd, L2.FunD K a_is_whole.name a_is_whole.qual a_is_whole.params a_is_whole.body a_is_whole.scope (a_is_whole.dvs K) (a_is_whole.kws K) (a_is_whole.at_ K) fd := T.c.def_ 0 (d := a_is_whole)
theorem Tx.d_lowest (T : Tx K mg) : ∃ fd, L2.FunD K a_lowest.name a_lowest.qual a_lowest.params a_lowest.body a_lowest.scope (a_lowest.dvs K) (a_lowest.kws K) (a_lowest.at_ K) fd := T.c.def_ 1 (d := a_lowest)
theorem Tx.d_is_number (T : Tx K mg) : ∃ fd, L2.FunD K a_is_number.name a_is_number.qual a_is_number.params a_is_number.body a_is_number.scope (a_is_number.dvs K) (a_is_number.kws K) (a_is_number.at_ K) fd := T.c.def_ 2 (d := a_is_number)
theorem Tx.d_check_number (T : Tx K mg) : ∃ fd, L2.FunD K a_check_number.name a_check_number.qual a_check_number.params a_check_number.body a_check_number.scope (a_check_number.dvs K) (a_check_number.kws K) (a_check_number.at_ K) fd := T.c.def_ 3 (d := a_check_number)
theorem Tx.d_plus (T : Tx K mg) : ∃ fd, L2.FunD K a_plus.name a_plus.qual a_plus.params a_plus.body a_plus.scope (a_plus.dvs K) (a_plus.kws K) (a_plus.at_ K) fd := T.c.def_ 4 (d := a_plus)
theorem Tx.d_minus (T : Tx K mg) : ∃ fd, L2.FunD K a_minus.name a_minus.qual a_minus.params a_minus.body a_minus.scope (a_minus.dvs K) (a_minus.kws K) (a_minus.at_ K) fd := T.c.def_ 5 (d := a_minus)
theorem Tx.d_product_of (T : Tx K mg) : ∃ fd, L2.FunD K a_product_of.name a_product_of.qual a_product_of.params a_product_of.body a_product_of.scope (a_product_of.dvs K) (a_product_of.kws K) (a_product_of.at_ K) fd := T.c.def_ 6 (d := a_product_of)
theorem Tx.d_over (T : Tx K mg) : ∃ fd, L2.FunD K a_over.name a_over.qual a_over.params a_over.body a_over.scope (a_over.dvs K) (a_over.kws K) (a_over.at_ K) fd := T.c.def_ 7 (d := a_over)
theorem Tx.d_opposite (T : Tx K mg) : ∃ fd, L2.FunD K a_opposite.name a_opposite.qual a_opposite.params a_opposite.body a_opposite.scope (a_opposite.dvs K) (a_opposite.kws K) (a_opposite.at_ K) fd := T.c.def_ 8 (d := a_opposite)
theorem Tx.d_sign_of (T : Tx K mg) : ∃ fd, L2.FunD K a_sign_of.name a_sign_of.qual a_sign_of.params a_sign_of.body a_sign_of.scope (a_sign_of.dvs K) (a_sign_of.kws K) (a_sign_of.at_ K) fd := T.c.def_ 9 (d := a_sign_of)
theorem Tx.d_powered (T : Tx K mg) : ∃ fd, L2.FunD K a_powered.name a_powered.qual a_powered.params a_powered.body a_powered.scope (a_powered.dvs K) (a_powered.kws K) (a_powered.at_ K) fd := T.c.def_ 10 (d := a_powered)
theorem Tx.d_trimmed (T : Tx K mg) : ∃ fd, L2.FunD K a_trimmed.name a_trimmed.qual a_trimmed.params a_trimmed.body a_trimmed.scope (a_trimmed.dvs K) (a_trimmed.kws K) (a_trimmed.at_ K) fd := T.c.def_ 11 (d := a_trimmed)
theorem Tx.d_poly (T : Tx K mg) : ∃ fd, L2.FunD K a_poly.name a_poly.qual a_poly.params a_poly.body a_poly.scope (a_poly.dvs K) (a_poly.kws K) (a_poly.at_ K) fd := T.c.def_ 12 (d := a_poly)
theorem Tx.d_cleared (T : Tx K mg) : ∃ fd, L2.FunD K a_cleared.name a_cleared.qual a_cleared.params a_cleared.body a_cleared.scope (a_cleared.dvs K) (a_cleared.kws K) (a_cleared.at_ K) fd := T.c.def_ 13 (d := a_cleared)
theorem Tx.d_poly_times (T : Tx K mg) : ∃ fd, L2.FunD K a_poly_times.name a_poly_times.qual a_poly_times.params a_poly_times.body a_poly_times.scope (a_poly_times.dvs K) (a_poly_times.kws K) (a_poly_times.at_ K) fd := T.c.def_ 14 (d := a_poly_times)
theorem Tx.d_poly_scaled (T : Tx K mg) : ∃ fd, L2.FunD K a_poly_scaled.name a_poly_scaled.qual a_poly_scaled.params a_poly_scaled.body a_poly_scaled.scope (a_poly_scaled.dvs K) (a_poly_scaled.kws K) (a_poly_scaled.at_ K) fd := T.c.def_ 15 (d := a_poly_scaled)
theorem Tx.d_row_plus (T : Tx K mg) : ∃ fd, L2.FunD K a_row_plus.name a_row_plus.qual a_row_plus.params a_row_plus.body a_row_plus.scope (a_row_plus.dvs K) (a_row_plus.kws K) (a_row_plus.at_ K) fd := T.c.def_ 16 (d := a_row_plus)
theorem Tx.d_row_scaled (T : Tx K mg) : ∃ fd, L2.FunD K a_row_scaled.name a_row_scaled.qual a_row_scaled.params a_row_scaled.body a_row_scaled.scope (a_row_scaled.dvs K) (a_row_scaled.kws K) (a_row_scaled.at_ K) fd := T.c.def_ 17 (d := a_row_scaled)
theorem Tx.d_dot (T : Tx K mg) : ∃ fd, L2.FunD K a_dot.name a_dot.qual a_dot.params a_dot.body a_dot.scope (a_dot.dvs K) (a_dot.kws K) (a_dot.at_ K) fd := T.c.def_ 18 (d := a_dot)
theorem Tx.d_flipped (T : Tx K mg) : ∃ fd, L2.FunD K a_flipped.name a_flipped.qual a_flipped.params a_flipped.body a_flipped.scope (a_flipped.dvs K) (a_flipped.kws K) (a_flipped.at_ K) fd := T.c.def_ 19 (d := a_flipped)
theorem Tx.d_times_matrix (T : Tx K mg) : ∃ fd, L2.FunD K a_times_matrix.name a_times_matrix.qual a_times_matrix.params a_times_matrix.body a_times_matrix.scope (a_times_matrix.dvs K) (a_times_matrix.kws K) (a_times_matrix.at_ K) fd := T.c.def_ 20 (d := a_times_matrix)
theorem Tx.d_plus_matrix (T : Tx K mg) : ∃ fd, L2.FunD K a_plus_matrix.name a_plus_matrix.qual a_plus_matrix.params a_plus_matrix.body a_plus_matrix.scope (a_plus_matrix.dvs K) (a_plus_matrix.kws K) (a_plus_matrix.at_ K) fd := T.c.def_ 21 (d := a_plus_matrix)
theorem Tx.d_scaled_matrix (T : Tx K mg) : ∃ fd, L2.FunD K a_scaled_matrix.name a_scaled_matrix.qual a_scaled_matrix.params a_scaled_matrix.body a_scaled_matrix.scope (a_scaled_matrix.dvs K) (a_scaled_matrix.kws K) (a_scaled_matrix.at_ K) fd := T.c.def_ 22 (d := a_scaled_matrix)
theorem Tx.d_divided (T : Tx K mg) : ∃ fd, L2.FunD K a_divided.name a_divided.qual a_divided.params a_divided.body a_divided.scope (a_divided.dvs K) (a_divided.kws K) (a_divided.at_ K) fd := T.c.def_ 23 (d := a_divided)
theorem Tx.d_primitive (T : Tx K mg) : ∃ fd, L2.FunD K a_primitive.name a_primitive.qual a_primitive.params a_primitive.body a_primitive.scope (a_primitive.dvs K) (a_primitive.kws K) (a_primitive.at_ K) fd := T.c.def_ 24 (d := a_primitive)
theorem Tx.d_whole_numbers (T : Tx K mg) : ∃ fd, L2.FunD K a_whole_numbers.name a_whole_numbers.qual a_whole_numbers.params a_whole_numbers.body a_whole_numbers.scope (a_whole_numbers.dvs K) (a_whole_numbers.kws K) (a_whole_numbers.at_ K) fd := T.c.def_ 25 (d := a_whole_numbers)
theorem Tx.d_whole_rest (T : Tx K mg) : ∃ fd, L2.FunD K a_whole_rest.name a_whole_rest.qual a_whole_rest.params a_whole_rest.body a_whole_rest.scope (a_whole_rest.dvs K) (a_whole_rest.kws K) (a_whole_rest.at_ K) fd := T.c.def_ 26 (d := a_whole_rest)
theorem Tx.d_common (T : Tx K mg) : ∃ fd, L2.FunD K a_common.name a_common.qual a_common.params a_common.body a_common.scope (a_common.dvs K) (a_common.kws K) (a_common.at_ K) fd := T.c.def_ 27 (d := a_common)
theorem Tx.d_func_form (T : Tx K mg) : ∃ fd, L2.FunD K a_func_form.name a_func_form.qual a_func_form.params a_func_form.body a_func_form.scope (a_func_form.dvs K) (a_func_form.kws K) (a_func_form.at_ K) fd := T.c.def_ 28 (d := a_func_form)
theorem Tx.d_check_sides (T : Tx K mg) : ∃ fd, L2.FunD K a_check_sides.name a_check_sides.qual a_check_sides.params a_check_sides.body a_check_sides.scope (a_check_sides.dvs K) (a_check_sides.kws K) (a_check_sides.at_ K) fd := T.c.def_ 29 (d := a_check_sides)
theorem Tx.d_Func___init__ (T : Tx K mg) : ∃ fd, L2.FunD K a_Func___init__.name a_Func___init__.qual a_Func___init__.params a_Func___init__.body a_Func___init__.scope (a_Func___init__.dvs K) (a_Func___init__.kws K) (a_Func___init__.at_ K) fd := T.c.def_ 30 (d := a_Func___init__)
theorem Tx.d_Func_is_one (T : Tx K mg) : ∃ fd, L2.FunD K a_Func_is_one.name a_Func_is_one.qual a_Func_is_one.params a_Func_is_one.body a_Func_is_one.scope (a_Func_is_one.dvs K) (a_Func_is_one.kws K) (a_Func_is_one.at_ K) fd := T.c.def_ 31 (d := a_Func_is_one)
theorem Tx.d_Func___eq__ (T : Tx K mg) : ∃ fd, L2.FunD K a_Func___eq__.name a_Func___eq__.qual a_Func___eq__.params a_Func___eq__.body a_Func___eq__.scope (a_Func___eq__.dvs K) (a_Func___eq__.kws K) (a_Func___eq__.at_ K) fd := T.c.def_ 32 (d := a_Func___eq__)
theorem Tx.d_Func___mul__ (T : Tx K mg) : ∃ fd, L2.FunD K a_Func___mul__.name a_Func___mul__.qual a_Func___mul__.params a_Func___mul__.body a_Func___mul__.scope (a_Func___mul__.dvs K) (a_Func___mul__.kws K) (a_Func___mul__.at_ K) fd := T.c.def_ 33 (d := a_Func___mul__)
theorem Tx.d_Func_one (T : Tx K mg) : ∃ fd, L2.FunD K a_Func_one.name a_Func_one.qual a_Func_one.params a_Func_one.body a_Func_one.scope (a_Func_one.dvs K) (a_Func_one.kws K) (a_Func_one.at_ K) fd := T.c.def_ 34 (d := a_Func_one)
theorem Tx.d_Func_undone (T : Tx K mg) : ∃ fd, L2.FunD K a_Func_undone.name a_Func_undone.qual a_Func_undone.params a_Func_undone.body a_Func_undone.scope (a_Func_undone.dvs K) (a_Func_undone.kws K) (a_Func_undone.at_ K) fd := T.c.def_ 35 (d := a_Func_undone)
theorem Tx.d_coprime_func (T : Tx K mg) : ∃ fd, L2.FunD K a_coprime_func.name a_coprime_func.qual a_coprime_func.params a_coprime_func.body a_coprime_func.scope (a_coprime_func.dvs K) (a_coprime_func.kws K) (a_coprime_func.at_ K) fd := T.c.def_ 36 (d := a_coprime_func)
theorem Tx.d_made_func (T : Tx K mg) : ∃ fd, L2.FunD K a_made_func.name a_made_func.qual a_made_func.params a_made_func.body a_made_func.scope (a_made_func.dvs K) (a_made_func.kws K) (a_made_func.at_ K) fd := T.c.def_ 37 (d := a_made_func)
theorem Tx.d_check_part (T : Tx K mg) : ∃ fd, L2.FunD K a_check_part.name a_check_part.qual a_check_part.params a_check_part.body a_check_part.scope (a_check_part.dvs K) (a_check_part.kws K) (a_check_part.at_ K) fd := T.c.def_ 38 (d := a_check_part)
theorem Tx.d_Link___init__ (T : Tx K mg) : ∃ fd, L2.FunD K a_Link___init__.name a_Link___init__.qual a_Link___init__.params a_Link___init__.body a_Link___init__.scope (a_Link___init__.dvs K) (a_Link___init__.kws K) (a_Link___init__.at_ K) fd := T.c.def_ 39 (d := a_Link___init__)
theorem Tx.d_Link___eq__ (T : Tx K mg) : ∃ fd, L2.FunD K a_Link___eq__.name a_Link___eq__.qual a_Link___eq__.params a_Link___eq__.body a_Link___eq__.scope (a_Link___eq__.dvs K) (a_Link___eq__.kws K) (a_Link___eq__.at_ K) fd := T.c.def_ 40 (d := a_Link___eq__)
theorem Tx.d_Link_is_true (T : Tx K mg) : ∃ fd, L2.FunD K a_Link_is_true.name a_Link_is_true.qual a_Link_is_true.params a_Link_is_true.body a_Link_is_true.scope (a_Link_is_true.dvs K) (a_Link_is_true.kws K) (a_Link_is_true.at_ K) fd := T.c.def_ 41 (d := a_Link_is_true)
theorem Tx.d_Link_does_nothing (T : Tx K mg) : ∃ fd, L2.FunD K a_Link_does_nothing.name a_Link_does_nothing.qual a_Link_does_nothing.params a_Link_does_nothing.body a_Link_does_nothing.scope (a_Link_does_nothing.dvs K) (a_Link_does_nothing.kws K) (a_Link_does_nothing.at_ K) fd := T.c.def_ 42 (d := a_Link_does_nothing)
theorem Tx.d_Link_undone_link (T : Tx K mg) : ∃ fd, L2.FunD K a_Link_undone_link.name a_Link_undone_link.qual a_Link_undone_link.params a_Link_undone_link.body a_Link_undone_link.scope (a_Link_undone_link.dvs K) (a_Link_undone_link.kws K) (a_Link_undone_link.at_ K) fd := T.c.def_ 43 (d := a_Link_undone_link)
theorem Tx.d_made_link (T : Tx K mg) : ∃ fd, L2.FunD K a_made_link.name a_made_link.qual a_made_link.params a_made_link.body a_made_link.scope (a_made_link.dvs K) (a_made_link.kws K) (a_made_link.at_ K) fd := T.c.def_ 44 (d := a_made_link)
theorem Tx.d_joined_links (T : Tx K mg) : ∃ fd, L2.FunD K a_joined_links.name a_joined_links.qual a_joined_links.params a_joined_links.body a_joined_links.scope (a_joined_links.dvs K) (a_joined_links.kws K) (a_joined_links.at_ K) fd := T.c.def_ 45 (d := a_joined_links)
theorem Tx.d_all_true (T : Tx K mg) : ∃ fd, L2.FunD K a_all_true.name a_all_true.qual a_all_true.params a_all_true.body a_all_true.scope (a_all_true.dvs K) (a_all_true.kws K) (a_all_true.at_ K) fd := T.c.def_ 46 (d := a_all_true)
theorem Tx.d_onto_line (T : Tx K mg) : ∃ fd, L2.FunD K a_onto_line.name a_onto_line.qual a_onto_line.params a_onto_line.body a_onto_line.scope (a_onto_line.dvs K) (a_onto_line.kws K) (a_onto_line.at_ K) fd := T.c.def_ 47 (d := a_onto_line)
theorem Tx.d_check_far (T : Tx K mg) : ∃ fd, L2.FunD K a_check_far.name a_check_far.qual a_check_far.params a_check_far.body a_check_far.scope (a_check_far.dvs K) (a_check_far.kws K) (a_check_far.at_ K) fd := T.c.def_ 48 (d := a_check_far)
theorem Tx.d_two_raised (T : Tx K mg) : ∃ fd, L2.FunD K a_two_raised.name a_two_raised.qual a_two_raised.params a_two_raised.body a_two_raised.scope (a_two_raised.dvs K) (a_two_raised.kws K) (a_two_raised.at_ K) fd := T.c.def_ 49 (d := a_two_raised)
theorem Tx.d_unit_of (T : Tx K mg) : ∃ fd, L2.FunD K a_unit_of.name a_unit_of.qual a_unit_of.params a_unit_of.body a_unit_of.scope (a_unit_of.dvs K) (a_unit_of.kws K) (a_unit_of.at_ K) fd := T.c.def_ 50 (d := a_unit_of)
theorem Tx.d_row_flow (T : Tx K mg) : ∃ fd, L2.FunD K a_row_flow.name a_row_flow.qual a_row_flow.params a_row_flow.body a_row_flow.scope (a_row_flow.dvs K) (a_row_flow.kws K) (a_row_flow.at_ K) fd := T.c.def_ 51 (d := a_row_flow)
theorem Tx.d_Flows___init__ (T : Tx K mg) : ∃ fd, L2.FunD K a_Flows___init__.name a_Flows___init__.qual a_Flows___init__.params a_Flows___init__.body a_Flows___init__.scope (a_Flows___init__.dvs K) (a_Flows___init__.kws K) (a_Flows___init__.at_ K) fd := T.c.def_ 52 (d := a_Flows___init__)
theorem Tx.d_Flows_flow (T : Tx K mg) : ∃ fd, L2.FunD K a_Flows_flow.name a_Flows_flow.qual a_Flows_flow.params a_Flows_flow.body a_Flows_flow.scope (a_Flows_flow.dvs K) (a_Flows_flow.kws K) (a_Flows_flow.at_ K) fd := T.c.def_ 53 (d := a_Flows_flow)
theorem Tx.d_Flows___call__ (T : Tx K mg) : ∃ fd, L2.FunD K a_Flows___call__.name a_Flows___call__.qual a_Flows___call__.params a_Flows___call__.body a_Flows___call__.scope (a_Flows___call__.dvs K) (a_Flows___call__.kws K) (a_Flows___call__.at_ K) fd := T.c.def_ 54 (d := a_Flows___call__)
theorem Tx.d_check_links (T : Tx K mg) : ∃ fd, L2.FunD K a_check_links.name a_check_links.qual a_check_links.params a_check_links.body a_check_links.scope (a_check_links.dvs K) (a_check_links.kws K) (a_check_links.at_ K) fd := T.c.def_ 55 (d := a_check_links)
theorem Tx.d_Row___init__ (T : Tx K mg) : ∃ fd, L2.FunD K a_Row___init__.name a_Row___init__.qual a_Row___init__.params a_Row___init__.body a_Row___init__.scope (a_Row___init__.dvs K) (a_Row___init__.kws K) (a_Row___init__.at_ K) fd := T.c.def_ 56 (d := a_Row___init__)
theorem Tx.d_Row___add__ (T : Tx K mg) : ∃ fd, L2.FunD K a_Row___add__.name a_Row___add__.qual a_Row___add__.params a_Row___add__.body a_Row___add__.scope (a_Row___add__.dvs K) (a_Row___add__.kws K) (a_Row___add__.at_ K) fd := T.c.def_ 57 (d := a_Row___add__)
theorem Tx.d_Row_is_true (T : Tx K mg) : ∃ fd, L2.FunD K a_Row_is_true.name a_Row_is_true.qual a_Row_is_true.params a_Row_is_true.body a_Row_is_true.scope (a_Row_is_true.dvs K) (a_Row_is_true.kws K) (a_Row_is_true.at_ K) fd := T.c.def_ 58 (d := a_Row_is_true)
theorem Tx.d_Row_undone (T : Tx K mg) : ∃ fd, L2.FunD K a_Row_undone.name a_Row_undone.qual a_Row_undone.params a_Row_undone.body a_Row_undone.scope (a_Row_undone.dvs K) (a_Row_undone.kws K) (a_Row_undone.at_ K) fd := T.c.def_ 59 (d := a_Row_undone)
theorem Tx.d_Row_repeated (T : Tx K mg) : ∃ fd, L2.FunD K a_Row_repeated.name a_Row_repeated.qual a_Row_repeated.params a_Row_repeated.body a_Row_repeated.scope (a_Row_repeated.dvs K) (a_Row_repeated.kws K) (a_Row_repeated.at_ K) fd := T.c.def_ 60 (d := a_Row_repeated)
theorem Tx.d_Row_shadow (T : Tx K mg) : ∃ fd, L2.FunD K a_Row_shadow.name a_Row_shadow.qual a_Row_shadow.params a_Row_shadow.body a_Row_shadow.scope (a_Row_shadow.dvs K) (a_Row_shadow.kws K) (a_Row_shadow.at_ K) fd := T.c.def_ 61 (d := a_Row_shadow)
theorem Tx.d_reduced (T : Tx K mg) : ∃ fd, L2.FunD K a_reduced.name a_reduced.qual a_reduced.params a_reduced.body a_reduced.scope (a_reduced.dvs K) (a_reduced.kws K) (a_reduced.at_ K) fd := T.c.def_ 62 (d := a_reduced)
theorem Tx.d_rounded (T : Tx K mg) : ∃ fd, L2.FunD K a_rounded.name a_rounded.qual a_rounded.params a_rounded.body a_rounded.scope (a_rounded.dvs K) (a_rounded.kws K) (a_rounded.at_ K) fd := T.c.def_ 63 (d := a_rounded)
theorem Tx.d_turns_of (T : Tx K mg) : ∃ fd, L2.FunD K a_turns_of.name a_turns_of.qual a_turns_of.params a_turns_of.body a_turns_of.scope (a_turns_of.dvs K) (a_turns_of.kws K) (a_turns_of.at_ K) fd := T.c.def_ 64 (d := a_turns_of)
theorem Tx.d_is_forward (T : Tx K mg) : ∃ fd, L2.FunD K a_is_forward.name a_is_forward.qual a_is_forward.params a_is_forward.body a_is_forward.scope (a_is_forward.dvs K) (a_is_forward.kws K) (a_is_forward.at_ K) fd := T.c.def_ 65 (d := a_is_forward)
theorem Tx.d_grows_once (T : Tx K mg) : ∃ fd, L2.FunD K a_grows_once.name a_grows_once.qual a_grows_once.params a_grows_once.body a_grows_once.scope (a_grows_once.dvs K) (a_grows_once.kws K) (a_grows_once.at_ K) fd := T.c.def_ 66 (d := a_grows_once)
theorem Tx.d_grows_ever (T : Tx K mg) : ∃ fd, L2.FunD K a_grows_ever.name a_grows_ever.qual a_grows_ever.params a_grows_ever.body a_grows_ever.scope (a_grows_ever.dvs K) (a_grows_ever.kws K) (a_grows_ever.at_ K) fd := T.c.def_ 67 (d := a_grows_ever)
theorem Tx.d_fitting_flows (T : Tx K mg) : ∃ fd, L2.FunD K a_fitting_flows.name a_fitting_flows.qual a_fitting_flows.params a_fitting_flows.body a_fitting_flows.scope (a_fitting_flows.dvs K) (a_fitting_flows.kws K) (a_fitting_flows.at_ K) fd := T.c.def_ 68 (d := a_fitting_flows)
theorem Tx.d_flows_ever (T : Tx K mg) : ∃ fd, L2.FunD K a_flows_ever.name a_flows_ever.qual a_flows_ever.params a_flows_ever.body a_flows_ever.scope (a_flows_ever.dvs K) (a_flows_ever.kws K) (a_flows_ever.at_ K) fd := T.c.def_ 69 (d := a_flows_ever)
theorem Tx.d_wrapped (T : Tx K mg) : ∃ fd, L2.FunD K a_wrapped.name a_wrapped.qual a_wrapped.params a_wrapped.body a_wrapped.scope (a_wrapped.dvs K) (a_wrapped.kws K) (a_wrapped.at_ K) fd := T.c.def_ 70 (d := a_wrapped)
theorem Tx.d_l_well (T : Tx K mg) : ∃ fd, L2.FunD K a_l_well.name a_l_well.qual a_l_well.params a_l_well.body a_l_well.scope (a_l_well.dvs K) (a_l_well.kws K) (a_l_well.at_ K) fd := T.c.def_ 71 (d := a_l_well)
theorem Tx.d_l_pull (T : Tx K mg) : ∃ fd, L2.FunD K a_l_pull.name a_l_pull.qual a_l_pull.params a_l_pull.body a_l_pull.scope (a_l_pull.dvs K) (a_l_pull.kws K) (a_l_pull.at_ K) fd := T.c.def_ 72 (d := a_l_pull)
theorem Tx.d_l_gcd (T : Tx K mg) : ∃ fd, L2.FunD K a_l_gcd.name a_l_gcd.qual a_l_gcd.params a_l_gcd.body a_l_gcd.scope (a_l_gcd.dvs K) (a_l_gcd.kws K) (a_l_gcd.at_ K) fd := T.c.def_ 73 (d := a_l_gcd)
theorem Tx.d_l_frac (T : Tx K mg) : ∃ fd, L2.FunD K a_l_frac.name a_l_frac.qual a_l_frac.params a_l_frac.body a_l_frac.scope (a_l_frac.dvs K) (a_l_frac.kws K) (a_l_frac.at_ K) fd := T.c.def_ 74 (d := a_l_frac)
theorem Tx.d_l_add (T : Tx K mg) : ∃ fd, L2.FunD K a_l_add.name a_l_add.qual a_l_add.params a_l_add.body a_l_add.scope (a_l_add.dvs K) (a_l_add.kws K) (a_l_add.at_ K) fd := T.c.def_ 75 (d := a_l_add)
theorem Tx.d_l_neg (T : Tx K mg) : ∃ fd, L2.FunD K a_l_neg.name a_l_neg.qual a_l_neg.params a_l_neg.body a_l_neg.scope (a_l_neg.dvs K) (a_l_neg.kws K) (a_l_neg.at_ K) fd := T.c.def_ 76 (d := a_l_neg)
theorem Tx.d_l_mul (T : Tx K mg) : ∃ fd, L2.FunD K a_l_mul.name a_l_mul.qual a_l_mul.params a_l_mul.body a_l_mul.scope (a_l_mul.dvs K) (a_l_mul.kws K) (a_l_mul.at_ K) fd := T.c.def_ 77 (d := a_l_mul)
theorem Tx.d_l_whole (T : Tx K mg) : ∃ fd, L2.FunD K a_l_whole.name a_l_whole.qual a_l_whole.params a_l_whole.body a_l_whole.scope (a_l_whole.dvs K) (a_l_whole.kws K) (a_l_whole.at_ K) fd := T.c.def_ 78 (d := a_l_whole)
theorem Tx.d_l_is_frac (T : Tx K mg) : ∃ fd, L2.FunD K a_l_is_frac.name a_l_is_frac.qual a_l_is_frac.params a_l_is_frac.body a_l_is_frac.scope (a_l_is_frac.dvs K) (a_l_is_frac.kws K) (a_l_is_frac.at_ K) fd := T.c.def_ 79 (d := a_l_is_frac)
theorem Tx.d_l_is_row (T : Tx K mg) : ∃ fd, L2.FunD K a_l_is_row.name a_l_is_row.qual a_l_is_row.params a_l_is_row.body a_l_is_row.scope (a_l_is_row.dvs K) (a_l_is_row.kws K) (a_l_is_row.at_ K) fd := T.c.def_ 80 (d := a_l_is_row)
theorem Tx.d_l_trim (T : Tx K mg) : ∃ fd, L2.FunD K a_l_trim.name a_l_trim.qual a_l_trim.params a_l_trim.body a_l_trim.scope (a_l_trim.dvs K) (a_l_trim.kws K) (a_l_trim.at_ K) fd := T.c.def_ 81 (d := a_l_trim)
theorem Tx.d_l_pmul (T : Tx K mg) : ∃ fd, L2.FunD K a_l_pmul.name a_l_pmul.qual a_l_pmul.params a_l_pmul.body a_l_pmul.scope (a_l_pmul.dvs K) (a_l_pmul.kws K) (a_l_pmul.at_ K) fd := T.c.def_ 82 (d := a_l_pmul)
theorem Tx.d_l_row (T : Tx K mg) : ∃ fd, L2.FunD K a_l_row.name a_l_row.qual a_l_row.params a_l_row.body a_l_row.scope (a_l_row.dvs K) (a_l_row.kws K) (a_l_row.at_ K) fd := T.c.def_ 83 (d := a_l_row)
theorem Tx.d_l_reduced (T : Tx K mg) : ∃ fd, L2.FunD K a_l_reduced.name a_l_reduced.qual a_l_reduced.params a_l_reduced.body a_l_reduced.scope (a_l_reduced.dvs K) (a_l_reduced.kws K) (a_l_reduced.at_ K) fd := T.c.def_ 84 (d := a_l_reduced)
theorem Tx.d_l_undone (T : Tx K mg) : ∃ fd, L2.FunD K a_l_undone.name a_l_undone.qual a_l_undone.params a_l_undone.body a_l_undone.scope (a_l_undone.dvs K) (a_l_undone.kws K) (a_l_undone.at_ K) fd := T.c.def_ 85 (d := a_l_undone)
theorem Tx.d_l_is_link (T : Tx K mg) : ∃ fd, L2.FunD K a_l_is_link.name a_l_is_link.qual a_l_is_link.params a_l_is_link.body a_l_is_link.scope (a_l_is_link.dvs K) (a_l_is_link.kws K) (a_l_is_link.at_ K) fd := T.c.def_ 86 (d := a_l_is_link)
theorem Tx.d_l_is_links (T : Tx K mg) : ∃ fd, L2.FunD K a_l_is_links.name a_l_is_links.qual a_l_is_links.params a_l_is_links.body a_l_is_links.scope (a_l_is_links.dvs K) (a_l_is_links.kws K) (a_l_is_links.at_ K) fd := T.c.def_ 87 (d := a_l_is_links)
theorem Tx.d_l_true (T : Tx K mg) : ∃ fd, L2.FunD K a_l_true.name a_l_true.qual a_l_true.params a_l_true.body a_l_true.scope (a_l_true.dvs K) (a_l_true.kws K) (a_l_true.at_ K) fd := T.c.def_ 88 (d := a_l_true)
theorem Tx.d_l_time (T : Tx K mg) : ∃ fd, L2.FunD K a_l_time.name a_l_time.qual a_l_time.params a_l_time.body a_l_time.scope (a_l_time.dvs K) (a_l_time.kws K) (a_l_time.at_ K) fd := T.c.def_ 89 (d := a_l_time)
theorem Tx.d_l_unit (T : Tx K mg) : ∃ fd, L2.FunD K a_l_unit.name a_l_unit.qual a_l_unit.params a_l_unit.body a_l_unit.scope (a_l_unit.dvs K) (a_l_unit.kws K) (a_l_unit.at_ K) fd := T.c.def_ 90 (d := a_l_unit)
theorem Tx.d_l_flow (T : Tx K mg) : ∃ fd, L2.FunD K a_l_flow.name a_l_flow.qual a_l_flow.params a_l_flow.body a_l_flow.scope (a_l_flow.dvs K) (a_l_flow.kws K) (a_l_flow.at_ K) fd := T.c.def_ 91 (d := a_l_flow)
theorem Tx.d_l_flown (T : Tx K mg) : ∃ fd, L2.FunD K a_l_flown.name a_l_flown.qual a_l_flown.params a_l_flown.body a_l_flown.scope (a_l_flown.dvs K) (a_l_flown.kws K) (a_l_flown.at_ K) fd := T.c.def_ 92 (d := a_l_flown)
theorem Tx.d_l_is_matrix (T : Tx K mg) : ∃ fd, L2.FunD K a_l_is_matrix.name a_l_is_matrix.qual a_l_is_matrix.params a_l_is_matrix.body a_l_is_matrix.scope (a_l_is_matrix.dvs K) (a_l_is_matrix.kws K) (a_l_is_matrix.at_ K) fd := T.c.def_ 93 (d := a_l_is_matrix)
theorem Tx.d_l_rounded (T : Tx K mg) : ∃ fd, L2.FunD K a_l_rounded.name a_l_rounded.qual a_l_rounded.params a_l_rounded.body a_l_rounded.scope (a_l_rounded.dvs K) (a_l_rounded.kws K) (a_l_rounded.at_ K) fd := T.c.def_ 94 (d := a_l_rounded)
theorem Tx.d_l_some_below (T : Tx K mg) : ∃ fd, L2.FunD K a_l_some_below.name a_l_some_below.qual a_l_some_below.params a_l_some_below.body a_l_some_below.scope (a_l_some_below.dvs K) (a_l_some_below.kws K) (a_l_some_below.at_ K) fd := T.c.def_ 95 (d := a_l_some_below)
theorem Tx.d_l_drawn (T : Tx K mg) : ∃ fd, L2.FunD K a_l_drawn.name a_l_drawn.qual a_l_drawn.params a_l_drawn.body a_l_drawn.scope (a_l_drawn.dvs K) (a_l_drawn.kws K) (a_l_drawn.at_ K) fd := T.c.def_ 96 (d := a_l_drawn)
theorem Tx.d_l_split (T : Tx K mg) : ∃ fd, L2.FunD K a_l_split.name a_l_split.qual a_l_split.params a_l_split.body a_l_split.scope (a_l_split.dvs K) (a_l_split.kws K) (a_l_split.at_ K) fd := T.c.def_ 97 (d := a_l_split)
theorem Tx.d_l_said (T : Tx K mg) : ∃ fd, L2.FunD K a_l_said.name a_l_said.qual a_l_said.params a_l_said.body a_l_said.scope (a_l_said.dvs K) (a_l_said.kws K) (a_l_said.at_ K) fd := T.c.def_ 98 (d := a_l_said)
theorem Tx.d_l_flows_told (T : Tx K mg) : ∃ fd, L2.FunD K a_l_flows_told.name a_l_flows_told.qual a_l_flows_told.params a_l_flows_told.body a_l_flows_told.scope (a_l_flows_told.dvs K) (a_l_flows_told.kws K) (a_l_flows_told.at_ K) fd := T.c.def_ 99 (d := a_l_flows_told)
theorem Tx.d_l_flows_due (T : Tx K mg) : ∃ fd, L2.FunD K a_l_flows_due.name a_l_flows_due.qual a_l_flows_due.params a_l_flows_due.body a_l_flows_due.scope (a_l_flows_due.dvs K) (a_l_flows_due.kws K) (a_l_flows_due.at_ K) fd := T.c.def_ 100 (d := a_l_flows_due)
theorem Tx.d_l_within (T : Tx K mg) : ∃ fd, L2.FunD K a_l_within.name a_l_within.qual a_l_within.params a_l_within.body a_l_within.scope (a_l_within.dvs K) (a_l_within.kws K) (a_l_within.at_ K) fd := T.c.def_ 101 (d := a_l_within)
theorem Tx.d_l_others (T : Tx K mg) : ∃ fd, L2.FunD K a_l_others.name a_l_others.qual a_l_others.params a_l_others.body a_l_others.scope (a_l_others.dvs K) (a_l_others.kws K) (a_l_others.at_ K) fd := T.c.def_ 102 (d := a_l_others)
theorem Tx.d_l_not_kept (T : Tx K mg) : ∃ fd, L2.FunD K a_l_not_kept.name a_l_not_kept.qual a_l_not_kept.params a_l_not_kept.body a_l_not_kept.scope (a_l_not_kept.dvs K) (a_l_not_kept.kws K) (a_l_not_kept.at_ K) fd := T.c.def_ 103 (d := a_l_not_kept)
theorem Tx.d_law (T : Tx K mg) : ∃ fd, L2.FunD K a_law.name a_law.qual a_law.params a_law.body a_law.scope (a_law.dvs K) (a_law.kws K) (a_law.at_ K) fd := T.c.def_ 104 (d := a_law)
theorem Tx.tlo {P : Program} (T : Tx K mg) (hE : SaysE clL K) (hF : P.main.file = PySem.Challenge.pw_trueruns_k86_whole_outer_rows_and_growin.main.file) (hS : P.main.scope = PySem.Challenge.pw_trueruns_k86_whole_outer_rows_and_growin.main.scope) : TLO P K mg (ga K "TooLarge") := by
  have e : fnE K (a_TooLarge___init__.at_ K) = valE a_TooLarge___init__ := by
    have h : [fnE K (a_TooLarge___init__.at_ K)] = [valE a_TooLarge___init__] := hE
    exact (List.cons.inj h).1
  refine tlo_ok (d := a_TooLarge___init__) T.x.choose_spec.1 T.x.choose_spec.2 rfl e (by rw [hF]; exact T.fact 150 (f := x_150)) (by rw [hS]; decide +kernel) rfl rfl ⟨0, 0, _, _, rfl, rfl, rfl⟩ ⟨_, _, _, _, _, _, _, _, _, _, _, _, rfl, by decide +kernel⟩ rfl
end
end W86
end
section
set_option Elab.async false
set_option linter.all false
set_option maxRecDepth 100000
set_option maxHeartbeats 0
/-! The head: the facts, part by part. Printed by genI.py. -/
namespace HeadT
open PySem PySem.W PySem.Calls PyProof.Rows
open HandSHeadRun
def part0 : DL.Pt3 := ⟨W86.exL0 ++ W86.exL1, W86.fnL0, W86.clL⟩
def part1 : DL.Pt3 := ⟨W86.exL2 ++ W86.exL3, W86.fnL1 ++ W86.fnL2, []⟩
def part2 : DL.Pt3 := ⟨W86.exL4 ++ W86.exL5, W86.fnL3, []⟩
def part3 : DL.Pt3 := ⟨W86.exL6, W86.fnL4, []⟩
def part4 : DL.Pt3 := ⟨W86.exL7 ++ W86.exL8, W86.fnL5, []⟩
def part5 : DL.Pt3 := ⟨W86.exL9 ++ W86.exL10, W86.fnL6 ++ W86.fnL7, []⟩
def part6 : DL.Pt3 := ⟨W86.exL11 ++ W86.exL12, W86.fnL8, []⟩
def parts : List DL.Pt3 := [part0, part1, part2, part3, part4, part5, part6]
abbrev hk : Hook := DL.hookN 4 W86.rootL parts
def ob0 (s : SharedT) : He.AlD := part0.ob 4 W86.rootL (HandSHeadRun.getT s)
def ob1 (s : SharedT) : He.AlD := part1.ob 4 W86.rootL (HandSHeadRun.getT s)
def ob2 (s : SharedT) : He.AlD := part2.ob 4 W86.rootL (HandSHeadRun.getT s)
def ob3 (s : SharedT) : He.AlD := part3.ob 4 W86.rootL (HandSHeadRun.getT s)
def ob4 (s : SharedT) : He.AlD := part4.ob 4 W86.rootL (HandSHeadRun.getT s)
def ob5 (s : SharedT) : He.AlD := part5.ob 4 W86.rootL (HandSHeadRun.getT s)
def ob6 (s : SharedT) : He.AlD := part6.ob 4 W86.rootL (HandSHeadRun.getT s)
def ob (s : SharedT) : List He.AlD := [ob0 s, ob1 s, ob2 s, ob3 s, ob4 s, ob5 s, ob6 s]
theorem ob_eq (s : SharedT) : ob s = hk.obs s.abs := by
  have e : HandSHeadRun.getT s = s.abs.heap.get? := funext (HandSHeadRun.getT_eq s)
  unfold ob ob0 ob1 ob2 ob3 ob4 ob5 ob6
  rw [e]
  rfl
theorem runF0 (w : World) : (wholeF (fun p => stepQ (denQ tabQ) p w) fenceQ 60000 R.prog).map (fun x => ob0 x.2) = some (DL.valY part0.f part0.c) := by
  kernel_rfl
theorem runF1 (w : World) : (wholeF (fun p => stepQ (denQ tabQ) p w) fenceQ 60000 R.prog).map (fun x => ob1 x.2) = some (DL.valY part1.f part1.c) := by
  kernel_rfl
theorem runF2 (w : World) : (wholeF (fun p => stepQ (denQ tabQ) p w) fenceQ 60000 R.prog).map (fun x => ob2 x.2) = some (DL.valY part2.f part2.c) := by
  kernel_rfl
theorem runF3 (w : World) : (wholeF (fun p => stepQ (denQ tabQ) p w) fenceQ 60000 R.prog).map (fun x => ob3 x.2) = some (DL.valY part3.f part3.c) := by
  kernel_rfl
theorem runF4 (w : World) : (wholeF (fun p => stepQ (denQ tabQ) p w) fenceQ 60000 R.prog).map (fun x => ob4 x.2) = some (DL.valY part4.f part4.c) := by
  kernel_rfl
theorem runF5 (w : World) : (wholeF (fun p => stepQ (denQ tabQ) p w) fenceQ 60000 R.prog).map (fun x => ob5 x.2) = some (DL.valY part5.f part5.c) := by
  kernel_rfl
theorem runF6 (w : World) : (wholeF (fun p => stepQ (denQ tabQ) p w) fenceQ 60000 R.prog).map (fun x => ob6 x.2) = some (DL.valY part6.f part6.c) := by
  kernel_rfl
theorem run (w : World) : HandSHeadRun.RunEqI R qv hk ob 60000 names w := by
  have a1 := runL w
  have a2 := runS w
  have b0 := runF0 w
  have b1 := runF1 w
  have b2 := runF2 w
  have b3 := runF3 w
  have b4 := runF4 w
  have b5 := runF5 w
  have b6 := runF6 w
  unfold HandSHeadRun.RunEqI
  generalize (wholeF (fun p => stepQ (denQ tabQ) p w) fenceQ 60000 R.prog) = o at a1 a2 b0 b1 b2 b3 b4 b5 b6 ⊢
  cases o with
  | none => cases a1
  | some x =>
    have a1 := Option.some.inj a1
    have a2 := Option.some.inj a2
    have b0 := Option.some.inj b0
    have b1 := Option.some.inj b1
    have b2 := Option.some.inj b2
    have b3 := Option.some.inj b3
    have b4 := Option.some.inj b4
    have b5 := Option.some.inj b5
    have b6 := Option.some.inj b6
    refine congrArg some (Prod.ext a1 (Prod.ext a2 ?_))
    show ob x.2 = parts.map fun p => DL.valY p.f p.c
    show [ob0 x.2, ob1 x.2, ob2 x.2, ob3 x.2, ob4 x.2, ob5 x.2, ob6 x.2] = [DL.valY part0.f part0.c, DL.valY part1.f part1.c, DL.valY part2.f part2.c, DL.valY part3.f part3.c, DL.valY part4.f part4.c, DL.valY part5.f part5.c, DL.valY part6.f part6.c]
    rw [show ob0 x.2 = _ from b0, show ob1 x.2 = _ from b1, show ob2 x.2 = _ from b2, show ob3 x.2 = _ from b3, show ob4 x.2 = _ from b4, show ob5 x.2 = _ from b5, show ob6 x.2 = _ from b6]
theorem fn_eq : W86.fnL = parts.flatMap DL.Pt3.f := rfl
theorem ex_eq : W86.exL = parts.flatMap DL.Pt3.e := rfl
theorem cl_eq : W86.clL = parts.flatMap DL.Pt3.c := rfl
end HeadT
end
section
set_option Elab.async false
set_option linter.all false
set_option maxRecDepth 100000
set_option maxHeartbeats 4000000
/-! WA: numbers. -/
namespace W86
open PySem PySem.Spec PyProof.Rows L2 Evl DL
open He (ga ma)
open He5 (wf)
set_option exponentiation.threshold 100000
/-- a number -/
def num (x : Rat) : D := .tup [.int x.num, .int x.den]
def Sz (n : Nat) (x : Rat) : Prop := x.num.natAbs < 2 ^ n ∧ x.den < 2 ^ n
theorem Sz.mono {n m : Nat} {x : Rat} (h : Sz n x) (l : n ≤ m) : Sz m x := ⟨Nat.lt_of_lt_of_le h.1 (Nat.pow_le_pow_right (by decide) l), Nat.lt_of_lt_of_le h.2 (Nat.pow_le_pow_right (by decide) l)⟩
theorem Sz.pos {n : Nat} {x : Rat} (h : Sz n x) : 0 < n := by
  cases n with
  | zero => have := h.2; have := x.den_pos; simp at *; omega
  | succ n => omega
/-- two numbers whose sum and product are told -/
def Two (x y : Rat) : Prop := ∃ n m, Sz n x ∧ Sz m y ∧ n + m ≤ 8999
theorem Two.symm {x y : Rat} : Two x y → Two y x := fun ⟨n, m, h1, h2, h3⟩ => ⟨m, n, h2, h1, by omega⟩
theorem mulw {i j : Int} {n m : Nat} (h1 : i.natAbs < 2 ^ n) (h2 : j.natAbs < 2 ^ m) (h : n + m ≤ 8999) (a : 0 < n) (b : 0 < m) : CMul i j ∨ CMulW i j := .inr (wide_mul h1 h2 a b (by omega))
theorem Two.nn {x y : Rat} : Two x y → CMul x.num y.num ∨ CMulW x.num y.num := fun ⟨n, m, h1, h2, h3⟩ => mulw h1.1 h2.1 h3 h1.pos h2.pos
theorem Two.nd {x y : Rat} : Two x y → CMul x.num y.den ∨ CMulW x.num y.den := fun ⟨n, m, h1, h2, h3⟩ => mulw h1.1 (by simpa using h2.2) h3 h1.pos h2.pos
theorem Two.dn {x y : Rat} : Two x y → CMul x.den y.num ∨ CMulW x.den y.num := fun ⟨n, m, h1, h2, h3⟩ => mulw (by simpa using h1.2) h2.1 h3 h1.pos h2.pos
theorem Two.dd {x y : Rat} : Two x y → CMul x.den y.den ∨ CMulW x.den y.den := fun ⟨n, m, h1, h2, h3⟩ => mulw (by simpa using h1.2) (by simpa using h2.2) h3 h1.pos h2.pos
theorem nat_mul_lt {a b n m : Nat} (h1 : a < 2 ^ n) (h2 : b < 2 ^ m) (h : n + m ≤ 8999) : a * b < 2 ^ 9000 := by
  have e : a * b < 2 ^ (n + m) := by
    rw [Nat.pow_add]
    exact Nat.mul_lt_mul'' h1 h2
  exact Nat.lt_of_lt_of_le e (Nat.pow_le_pow_right (by decide) (by omega))
theorem Two.lt {x y : Rat} : Two x y → ((x.den : Int) * (y.den : Int)).natAbs < 2 ^ 9000 := fun ⟨n, m, h1, h2, h3⟩ => by
  rw [Int.natAbs_mul]
  exact nat_mul_lt (by simpa using h1.2) (by simpa using h2.2) h3
theorem Two.lt' {x y : Rat} : Two x y → ((x.den : Int) * y.num).natAbs < 2 ^ 9000 := fun ⟨n, m, h1, h2, h3⟩ => by
  rw [Int.natAbs_mul]
  exact nat_mul_lt (by simpa using h1.2) h2.1 h3
theorem den_pos' (x : Rat) : (0 : Int) < x.den := by have := x.den_pos; omega
theorem dd_pos (x y : Rat) : (0 : Int) < (x.den : Int) * (y.den : Int) := Int.mul_pos (den_pos' x) (den_pos' y)
theorem add_dd (x y : Rat) : Rat.divInt (x.num * y.den + y.num * x.den) ((x.den : Int) * (y.den : Int)) = x + y := by
  rw [Rat.add_def', ← Int.natCast_mul, Rat.divInt_ofNat]
theorem mul_dd (x y : Rat) : Rat.divInt (x.num * y.num) ((x.den : Int) * (y.den : Int)) = x * y := by
  rw [Rat.mul_def', ← Int.natCast_mul, Rat.divInt_ofNat]
theorem div_dd (x y : Rat) : Rat.divInt (x.num * y.den) ((x.den : Int) * y.num) = x / y := by
  rw [Rat.div_def, Rat.inv_def]
  conv => rhs; rw [← Rat.num_divInt_den x]
  rw [Rat.divInt_mul_divInt]
theorem num_divInt' {p q : Int} (h : 0 < q) : num (Rat.divInt p q) = .tup [.int (p / (Int.gcd p q : Nat)), .int (q / (Int.gcd p q : Nat))] := by
  unfold num
  rw [Rat.num_divInt, Rat.den_divInt, if_neg (by omega), Int.gcd_comm q p, Int.sign_eq_one_of_pos h, Int.one_mul]
  have e : ((q.natAbs / p.gcd q : Nat) : Int) = q / (Int.gcd p q : Nat) := by
    rw [Int.natCast_ediv, Int.natAbs_of_nonneg (by omega)]
  rw [e]
section
variable {P : Program} {w : World} {K : Fr} {mg : Str → Option Value} {base : Heap}
theorem div_ok {i j : Int} (h : 0 < j) (hn : j.natAbs < 2 ^ 9000) : CDivW i j := wide_div h hn (by decide) (by decide)
def ct_is_whole (K : Fr) : Ct := ⟨Int, fun i => [.int i], fun _ => True, fun _ => .fr (.bl true)⟩
theorem ok_is_whole (T : Tx K mg) {fd : FuncData} (F : L2.FunD K a_is_whole.name a_is_whole.qual a_is_whole.params a_is_whole.body a_is_whole.scope [] [] (ga K "is_whole") fd) : FnOk P w K mg base CX0 1 (ga K "is_whole") fd ["thing"] ((ct_is_whole K).sp K) := by
  refine ct_ok F sc_is_whole (fun a => rfl) fun cdv A outer s H E hr => ?_
  refine ⟨_, _, (pdss_one (pds_ret (pd_and (pd_isB k_int T.b_isinstance T.b_int (pd_name 0)) (pd_one (pd_not (pd_isB k_bool T.b_isinstance T.b_bool (pd_name 0))))))), ?_⟩
  exact fun i _ => rfl
theorem d_is_whole (T : Tx K mg) : Gd P w K mg base "is_whole" 1 [] ((ct_is_whole K).sp K) := by
  obtain ⟨fd, F⟩ := T.d_is_whole
  exact gd_of T.g_is_whole F.kp (F.bindsN fun _ _ _ _ _ _ us hl => match us, hl with | [_], _ => rfl) (ok_is_whole T F)
def ct_lowest (K : Fr) : Ct := ⟨Int × Int, fun a => [.int a.1, .int a.2], fun a => 0 < a.2 ∧ a.2.natAbs < 2 ^ 9000, fun a => .fr (num (Rat.divInt a.1 a.2))⟩
theorem ok_lowest (T : Tx K mg) {fd : FuncData} (F : L2.FunD K a_lowest.name a_lowest.qual a_lowest.params a_lowest.body a_lowest.scope [] [] (ga K "lowest") fd) : FnOk P w K mg base CX0 1 (ga K "lowest") fd ["p", "q"] ((ct_lowest K).sp K) := by
  refine ct_ok F sc_lowest (fun a => rfl) fun cdv A outer s H E hr => ?_
  refine ⟨_, _, (pdss_cons (pds_set 2 (pd_callF cr_gcd vo_gcd T.g_gcd (pda_cons (pd_name 0) (pda_cons (pd_name 1) pda_nil))) sc_lowest.nd)
  (pdss_cons (pds_if (pdt_cmp op_lt vo_cmp (pd_name 1) pd_int (nomark _)) (pdss_one (pds_set 2 (pd_un un_neg vo_neg (pd_name 2)) sc_lowest.nd)) pdss_nil)
  (pdss_one (pds_ret (pd_tup (pda_cons (pd_op op_fdivW vo_fdiv (pd_name 0) (pd_name 2)) (pda_cons (pd_op op_fdivW vo_fdiv (pd_name 1) (pd_name 2)) pda_nil))))))), ?_⟩
  rintro ⟨p, q⟩ ⟨h1, h2⟩
  have h1 : 0 < q := h1
  have h2 : q.natAbs < 2 ^ 9000 := h2
  have g0 : 0 < Int.gcd p q := Int.gcd_pos_of_ne_zero_right p (by omega)
  have g1 : Int.gcd p q ≤ q.natAbs := Int.gcd_le_natAbs_right p (by omega)
  have gg : CDivW p (Int.gcd p q : Nat) ∧ CDivW q (Int.gcd p q : Nat) := ⟨div_ok (by omega) (by simp; omega), div_ok (by omega) (by simp; omega)⟩
  refine ite2 (fun h => ?_) (fun h => ?_)
  · exact absurd (of_decide_eq_true h) (by omega)
  · refine ⟨gg.1, ⟨gg.2, ?_⟩⟩
    show Res.fr _ = Res.fr _
    exact congrArg Res.fr (num_divInt' h1)
theorem d_lowest (T : Tx K mg) : Gd P w K mg base "lowest" 1 [] ((ct_lowest K).sp K) := by
  obtain ⟨fd, F⟩ := T.d_lowest
  exact gd_of T.g_lowest F.kp (F.bindsN fun _ _ _ _ _ _ us hl => match us, hl with | [_, _], _ => rfl) (ok_lowest T F)
theorem iteF' {c A B : Prop} [Decidable c] (hc : ¬ c) (h : B) : if c then A else B := by rw [if_neg hc]; exact h
theorem iteT' {c A B : Prop} [Decidable c] (hc : c) (h : A) : if c then A else B := by rw [if_pos hc]; exact h
theorem eqI {a b : Int} : (PyData.eqv (.int a) (.int b)) = decide (a = b) := by
  unfold PyData.eqv
  first
  | rfl
  | exact (Bool.decide_iff _ _).symm
  | (by_cases h : a = b <;> simp [h])
def ct_is_number (K : Fr) : Ct := ⟨Rat, fun x => [num x], fun _ => True, fun _ => .fr (.bl true)⟩
theorem ok_is_number (T : Tx K mg) {fd : FuncData} (F : L2.FunD K a_is_number.name a_is_number.qual a_is_number.params a_is_number.body a_is_number.scope [] [] (ga K "is_number") fd) : FnOk P w K mg base CX0 2 (ga K "is_number") fd ["thing"] ((ct_is_number K).sp K) := by
  refine ct_ok F sc_is_number (fun a => rfl) fun cdv A outer s H E hr => ?_
  refine ⟨_, _, (pdss_cons (pds_if (PDW.pdt (pdw_or (pdt_not (pdt_val (pd_isB k_tup T.b_isinstance T.b_tuple (pd_name 0)))) (pdw_or1 (pdt_cmp (op_neD hr.units) vo_ne (pd_callB1 call_lenA vo_len T.b_len (pd_name 0)) pd_int (nomark _))))) (pdss_one (pds_ret pd_bl)) pdss_nil)
  (pdss_cons (pds_asg (pd_name 0) (pdg_tup rfl (pdgs_cons (pdg_name 1 sc_is_number.nd) (pdgs_cons (pdg_name 2 sc_is_number.nd) pdgs_nil))))
  (pdss_one (pds_ret (pd_and (pd_call (d_is_whole T) (hr.mono (by decide)) (pda_cons (pd_name 1) pda_nil)) (pd_and (pd_call (d_is_whole T) (hr.mono (by decide)) (pda_cons (pd_name 2) pda_nil)) (pd_and (pd_cmp op_ge vo_cmp (pd_name 2) pd_int (nomark _)) (pd_one (pd_cmp (op_eqD hr.units) vo_eq (pd_callF cr_gcd vo_gcd T.g_gcd (pda_cons (pd_name 1) (pda_cons (pd_name 2) pda_nil))) pd_int (nomark _)))))))))), ?_⟩
  rintro x _
  refine ⟨x.num, rfl, trivial, ?_⟩
  refine ⟨(x.den : Int), rfl, trivial, ?_⟩
  refine iteT' (decide_eq_true (by show (1 : Int) ≤ (x.den : Int); have := x.den_pos; omega)) ?_
  show Res.fr (.bl true) = Res.fr (.bl (PyData.eqv (.int (Int.gcd x.num x.den : Nat)) (.int 1)))
  rw [eqI, show Int.gcd x.num x.den = 1 from by have := x.reduced; unfold Nat.Coprime at this; unfold Int.gcd; simpa using this]
  rfl
theorem d_is_number (T : Tx K mg) : Gd P w K mg base "is_number" 2 [] ((ct_is_number K).sp K) := by
  obtain ⟨fd, F⟩ := T.d_is_number
  exact gd_of T.g_is_number F.kp (F.bindsN fun _ _ _ _ _ _ us hl => match us, hl with | [_], _ => rfl) (ok_is_number T F)
theorem figs : (10 : Int) ^ 400 = 10000000000000000000000000000000000000000000000000000000000000000000000000000000000000000000000000000000000000000000000000000000000000000000000000000000000000000000000000000000000000000000000000000000000000000000000000000000000000000000000000000000000000000000000000000000000000000000000000000000000000000000000000000000000000000000000000000000000000000000000000000000000000000000000000000000000000000 := by decide +kernel
/-- a number that is let in -/
def Ok (x : Rat) : Prop := Sz 1000 x
theorem Ok.lt {x : Rat} (h : Ok x) : (if x.num < 0 then -x.num else x.num) < 10000000000000000000000000000000000000000000000000000000000000000000000000000000000000000000000000000000000000000000000000000000000000000000000000000000000000000000000000000000000000000000000000000000000000000000000000000000000000000000000000000000000000000000000000000000000000000000000000000000000000000000000000000000000000000000000000000000000000000000000000000000000000000000000000000000000000000 ∧ (x.den : Int) < 10000000000000000000000000000000000000000000000000000000000000000000000000000000000000000000000000000000000000000000000000000000000000000000000000000000000000000000000000000000000000000000000000000000000000000000000000000000000000000000000000000000000000000000000000000000000000000000000000000000000000000000000000000000000000000000000000000000000000000000000000000000000000000000000000000000000000000 := by
  obtain ⟨h1, h2⟩ := h
  have e : (2 : Nat) ^ 1000 < 10000000000000000000000000000000000000000000000000000000000000000000000000000000000000000000000000000000000000000000000000000000000000000000000000000000000000000000000000000000000000000000000000000000000000000000000000000000000000000000000000000000000000000000000000000000000000000000000000000000000000000000000000000000000000000000000000000000000000000000000000000000000000000000000000000000000000000 := by decide +kernel
  constructor
  · split <;> omega
  · omega
def ct_check_number (K : Fr) : Ct := ⟨Rat, fun x => [num x], fun x => Ok x, fun x => .fr (num x)⟩
theorem ok_check_number (T : Tx K mg) {fd : FuncData} (F : L2.FunD K a_check_number.name a_check_number.qual a_check_number.params a_check_number.body a_check_number.scope [] [] (ga K "check_number") fd) : FnOk P w K mg base CX0 3 (ga K "check_number") fd ["thing"] ((ct_check_number K).sp K) := by
  refine ct_ok F sc_check_number (fun a => rfl) fun cdv A outer s H E hr => ?_
  refine ⟨_, _, (pdss_cons (pds_if (pdt_not (pdt_val (pd_call (d_is_number T) (hr.mono (by decide)) (pda_cons (pd_name 0) pda_nil)))) (pdss_one pds_never) pdss_nil)
  (pdss_cons (pds_if (PDW.pdt (pdw_or (pdt_cmp op_ge vo_cmp (pd_callB1 call_abs vo_abs T.b_abs (pd_ix ix_seq vo_ix (pd_name 0) pd_int (fun _ _ => rfl))) (pd_kon T.k_FIGURES_BOUND) (nomark _)) (pdw_or1 (pdt_cmp op_ge vo_cmp (pd_ix ix_seq vo_ix (pd_name 0) pd_int (fun _ _ => rfl)) (pd_kon T.k_FIGURES_BOUND) (nomark _))))) (pdss_one pds_never) pdss_nil)
  (pdss_one (pds_ret (pd_name 0))))), ?_⟩
  rintro x hx
  have hx := (show Ok x from hx).lt
  refine ⟨x, rfl, trivial, ?_⟩
  refine iteF' (fun h => ?_) ?_
  · have h := of_decide_eq_true h
    exact absurd hx.1 (Int.not_lt.mpr h)
  · refine iteF' (fun h => ?_) rfl
    have h := of_decide_eq_true h
    exact absurd hx.2 (Int.not_lt.mpr h)
theorem d_check_number (T : Tx K mg) : Gd P w K mg base "check_number" 3 [] ((ct_check_number K).sp K) := by
  obtain ⟨fd, F⟩ := T.d_check_number
  exact gd_of T.g_check_number F.kp (F.bindsN fun _ _ _ _ _ _ us hl => match us, hl with | [_], _ => rfl) (ok_check_number T F)
def ct_plus (K : Fr) : Ct := ⟨Rat × Rat, fun a => [num a.1, num a.2], fun a => Two a.1 a.2, fun a => .fr (num (a.1 + a.2))⟩
theorem ok_plus (T : Tx K mg) {fd : FuncData} (F : L2.FunD K a_plus.name a_plus.qual a_plus.params a_plus.body a_plus.scope [] [] (ga K "plus") fd) : FnOk P w K mg base CX0 2 (ga K "plus") fd ["x", "y"] ((ct_plus K).sp K) := by
  refine ct_ok F sc_plus (fun a => rfl) fun cdv A outer s H E hr => ?_
  refine ⟨_, _, (pdss_cons (pds_if (PDW.pdt (pdw_and (pdt_cmp (op_eqD hr.units) vo_eq (pd_ix ix_seq vo_ix (pd_name 0) pd_int (fun _ _ => rfl)) pd_int (nomark _)) (pdw_and1 (pdt_cmp (op_eqD hr.units) vo_eq (pd_ix ix_seq vo_ix (pd_name 1) pd_int (fun _ _ => rfl)) pd_int (nomark _))))) (pdss_one (pds_ret (pd_tup (pda_cons (pd_op op_addA vo_add (pd_ix ix_seq vo_ix (pd_name 0) pd_int (fun _ _ => rfl)) (pd_ix ix_seq vo_ix (pd_name 1) pd_int (fun _ _ => rfl))) (pda_cons pd_int pda_nil))))) pdss_nil)
  (pdss_one (pds_ret (pd_call (d_lowest T) (hr.mono (by decide)) (pda_cons (pd_op op_addA vo_add (pd_op op_mulA vo_mul (pd_ix ix_seq vo_ix (pd_name 0) pd_int (fun _ _ => rfl)) (pd_ix ix_seq vo_ix (pd_name 1) pd_int (fun _ _ => rfl))) (pd_op op_mulA vo_mul (pd_ix ix_seq vo_ix (pd_name 1) pd_int (fun _ _ => rfl)) (pd_ix ix_seq vo_ix (pd_name 0) pd_int (fun _ _ => rfl)))) (pda_cons (pd_op op_mulA vo_mul (pd_ix ix_seq vo_ix (pd_name 0) pd_int (fun _ _ => rfl)) (pd_ix ix_seq vo_ix (pd_name 1) pd_int (fun _ _ => rfl))) pda_nil)))))), ?_⟩
  rintro ⟨x, y⟩ hp
  have hp : Two x y := hp
  have last : dRet (dCall (ct_lowest K) [] (dCons false (dOp gAdd (dOp gMul (dOp gIx (dVar 0) (dC (.int 0))) (dOp gIx (dVar 1) (dC (.int 1)))) (dOp gMul (dOp gIx (dVar 1) (dC (.int 0))) (dOp gIx (dVar 0) (dC (.int 1))))) (dCons false (dOp gMul (dOp gIx (dVar 0) (dC (.int 1))) (dOp gIx (dVar 1) (dC (.int 1)))) dNil))) (dEnds (.fr (num (x + y)))) [.fr (num x), .fr (num y)] := by
    refine ⟨hp.nd, ⟨hp.symm.nd, ⟨hp.dd, ⟨(_, _), rfl, ⟨dd_pos x y, hp.lt⟩, ?_⟩⟩⟩⟩
    exact congrArg Res.fr (congrArg num (add_dd x y).symm)
  refine ite2 (fun h => ?_) (fun h => ?_)
  · refine ite2 (fun h' => ?_) (fun h' => ?_)
    · have h1 : (x.den : Int) = 1 := of_decide_eq_true (eqI ▸ h)
      have h2 : (y.den : Int) = 1 := of_decide_eq_true (eqI ▸ h')
      show Res.fr (num (x + y)) = Res.fr (.tup [.int (x.num + y.num), .int 1])
      rw [← add_dd, h1, h2, Int.mul_one, Int.mul_one, Int.mul_one]
      have e := num_divInt' (p := x.num + y.num) (q := 1) (by decide)
      rw [e]
      simp
    · exact last
  · exact last
theorem d_plus (T : Tx K mg) : Gd P w K mg base "plus" 2 [] ((ct_plus K).sp K) := by
  obtain ⟨fd, F⟩ := T.d_plus
  exact gd_of T.g_plus F.kp (F.bindsN fun _ _ _ _ _ _ us hl => match us, hl with | [_, _], _ => rfl) (ok_plus T F)
def ct_minus (K : Fr) : Ct := ⟨Rat × Rat, fun a => [num a.1, num a.2], fun a => Two a.1 a.2, fun a => .fr (num (a.1 - a.2))⟩
theorem Sz.neg {n : Nat} {x : Rat} (h : Sz n x) : Sz n (-x) := ⟨by rw [Rat.neg_num, Int.natAbs_neg]; exact h.1, h.2⟩
theorem ok_minus (T : Tx K mg) {fd : FuncData} (F : L2.FunD K a_minus.name a_minus.qual a_minus.params a_minus.body a_minus.scope [] [] (ga K "minus") fd) : FnOk P w K mg base CX0 3 (ga K "minus") fd ["x", "y"] ((ct_minus K).sp K) := by
  refine ct_ok F sc_minus (fun a => rfl) fun cdv A outer s H E hr => ?_
  refine ⟨_, _, (pdss_one (pds_ret (pd_call (d_plus T) (hr.mono (by decide)) (pda_cons (pd_name 0) (pda_cons (pd_tup (pda_cons (pd_un un_neg vo_neg (pd_ix ix_seq vo_ix (pd_name 1) pd_int (fun _ _ => rfl))) (pda_cons (pd_ix ix_seq vo_ix (pd_name 1) pd_int (fun _ _ => rfl)) pda_nil))) pda_nil))))), ?_⟩
  rintro ⟨x, y⟩ ⟨n, m, h1, h2, h3⟩
  refine ⟨(x, -y), rfl, ⟨n, m, h1, h2.neg, h3⟩, ?_⟩
  exact congrArg Res.fr (congrArg num (Rat.sub_eq_add_neg x y))
theorem d_minus (T : Tx K mg) : Gd P w K mg base "minus" 3 [] ((ct_minus K).sp K) := by
  obtain ⟨fd, F⟩ := T.d_minus
  exact gd_of T.g_minus F.kp (F.bindsN fun _ _ _ _ _ _ us hl => match us, hl with | [_, _], _ => rfl) (ok_minus T F)
def ct_product_of (K : Fr) : Ct := ⟨Rat × Rat, fun a => [num a.1, num a.2], fun a => Two a.1 a.2, fun a => .fr (num (a.1 * a.2))⟩
theorem ok_product_of (T : Tx K mg) {fd : FuncData} (F : L2.FunD K a_product_of.name a_product_of.qual a_product_of.params a_product_of.body a_product_of.scope [] [] (ga K "product_of") fd) : FnOk P w K mg base CX0 2 (ga K "product_of") fd ["x", "y"] ((ct_product_of K).sp K) := by
  refine ct_ok F sc_product_of (fun a => rfl) fun cdv A outer s H E hr => ?_
  refine ⟨_, _, (pdss_one (pds_ret (pd_call (d_lowest T) (hr.mono (by decide)) (pda_cons (pd_op op_mulA vo_mul (pd_ix ix_seq vo_ix (pd_name 0) pd_int (fun _ _ => rfl)) (pd_ix ix_seq vo_ix (pd_name 1) pd_int (fun _ _ => rfl))) (pda_cons (pd_op op_mulA vo_mul (pd_ix ix_seq vo_ix (pd_name 0) pd_int (fun _ _ => rfl)) (pd_ix ix_seq vo_ix (pd_name 1) pd_int (fun _ _ => rfl))) pda_nil))))), ?_⟩
  rintro ⟨x, y⟩ hp
  have hp : Two x y := hp
  refine ⟨hp.nn, ⟨hp.dd, ⟨(_, _), rfl, ⟨dd_pos x y, hp.lt⟩, ?_⟩⟩⟩
  exact congrArg Res.fr (congrArg num (mul_dd x y).symm)
theorem d_product_of (T : Tx K mg) : Gd P w K mg base "product_of" 2 [] ((ct_product_of K).sp K) := by
  obtain ⟨fd, F⟩ := T.d_product_of
  exact gd_of T.g_product_of F.kp (F.bindsN fun _ _ _ _ _ _ us hl => match us, hl with | [_, _], _ => rfl) (ok_product_of T F)
def ct_over (K : Fr) : Ct := ⟨Rat × Rat, fun a => [num a.1, num a.2], fun a => Two a.1 a.2 ∧ 0 < a.2.num, fun a => .fr (num (a.1 / a.2))⟩
theorem ok_over (T : Tx K mg) {fd : FuncData} (F : L2.FunD K a_over.name a_over.qual a_over.params a_over.body a_over.scope [] [] (ga K "over") fd) : FnOk P w K mg base CX0 2 (ga K "over") fd ["x", "y"] ((ct_over K).sp K) := by
  refine ct_ok F sc_over (fun a => rfl) fun cdv A outer s H E hr => ?_
  refine ⟨_, _, (pdss_cons (pds_if (pdt_cmp (op_eqD hr.units) vo_eq (pd_ix ix_seq vo_ix (pd_name 1) pd_int (fun _ _ => rfl)) pd_int (nomark _)) (pdss_one pds_never) pdss_nil)
  (pdss_one (pds_ret (pd_call (d_lowest T) (hr.mono (by decide)) (pda_cons (pd_op op_mulA vo_mul (pd_ix ix_seq vo_ix (pd_name 0) pd_int (fun _ _ => rfl)) (pd_ix ix_seq vo_ix (pd_name 1) pd_int (fun _ _ => rfl))) (pda_cons (pd_op op_mulA vo_mul (pd_ix ix_seq vo_ix (pd_name 0) pd_int (fun _ _ => rfl)) (pd_ix ix_seq vo_ix (pd_name 1) pd_int (fun _ _ => rfl))) pda_nil)))))), ?_⟩
  rintro ⟨x, y⟩ ⟨hp, hy⟩
  have hp : Two x y := hp
  have hy : 0 < y.num := hy
  refine iteF' (fun h => ?_) ?_
  · have h := of_decide_eq_true (eqI ▸ h)
    omega
  · refine ⟨hp.nd, ⟨hp.dn, ⟨(_, _), rfl, ⟨Int.mul_pos (den_pos' x) hy, hp.lt'⟩, ?_⟩⟩⟩
    exact congrArg Res.fr (congrArg num (div_dd x y).symm)
theorem d_over (T : Tx K mg) : Gd P w K mg base "over" 2 [] ((ct_over K).sp K) := by
  obtain ⟨fd, F⟩ := T.d_over
  exact gd_of T.g_over F.kp (F.bindsN fun _ _ _ _ _ _ us hl => match us, hl with | [_, _], _ => rfl) (ok_over T F)
def ct_opposite (K : Fr) : Ct := ⟨Rat, fun x => [num x], fun _ => True, fun x => .fr (num (-x))⟩
theorem ok_opposite (T : Tx K mg) {fd : FuncData} (F : L2.FunD K a_opposite.name a_opposite.qual a_opposite.params a_opposite.body a_opposite.scope [] [] (ga K "opposite") fd) : FnOk P w K mg base CX0 1 (ga K "opposite") fd ["x"] ((ct_opposite K).sp K) := by
  refine ct_ok F sc_opposite (fun a => rfl) fun cdv A outer s H E hr => ?_
  refine ⟨_, _, (pdss_one (pds_ret (pd_tup (pda_cons (pd_un un_neg vo_neg (pd_ix ix_seq vo_ix (pd_name 0) pd_int (fun _ _ => rfl))) (pda_cons (pd_ix ix_seq vo_ix (pd_name 0) pd_int (fun _ _ => rfl)) pda_nil))))), ?_⟩
  exact fun x _ => rfl
theorem d_opposite (T : Tx K mg) : Gd P w K mg base "opposite" 1 [] ((ct_opposite K).sp K) := by
  obtain ⟨fd, F⟩ := T.d_opposite
  exact gd_of T.g_opposite F.kp (F.bindsN fun _ _ _ _ _ _ us hl => match us, hl with | [_], _ => rfl) (ok_opposite T F)
def ct_sign_of (K : Fr) : Ct := ⟨Rat, fun x => [num x], fun _ => True, fun x => .fr (.int x.num.sign)⟩
theorem ok_sign_of (T : Tx K mg) {fd : FuncData} (F : L2.FunD K a_sign_of.name a_sign_of.qual a_sign_of.params a_sign_of.body a_sign_of.scope [] [] (ga K "sign_of") fd) : FnOk P w K mg base CX0 1 (ga K "sign_of") fd ["x"] ((ct_sign_of K).sp K) := by
  refine ct_ok F sc_sign_of (fun a => rfl) fun cdv A outer s H E hr => ?_
  refine ⟨_, _, (pdss_cons (pds_if (pdt_cmp op_lt vo_cmp (pd_ix ix_seq vo_ix (pd_name 0) pd_int (fun _ _ => rfl)) pd_int (nomark _)) (pdss_one (pds_ret (pd_un un_neg vo_neg pd_int))) pdss_nil)
  (pdss_one (pds_ret (pd_ifExp (pdt_cmp op_gt vo_cmp (pd_ix ix_seq vo_ix (pd_name 0) pd_int (fun _ _ => rfl)) pd_int (nomark _)) pd_int pd_int)))), ?_⟩
  rintro x _
  refine ite2 (fun h => ?_) (fun h => ?_)
  · have h : x.num < 0 := of_decide_eq_true h
    exact congrArg (fun i => Res.fr (.int i)) (Int.sign_eq_neg_one_of_neg h)
  · have h : ¬ x.num < 0 := fun z => h (decide_eq_true z)
    refine ite2 (fun h' => ?_) (fun h' => ?_)
    · have h' : x.num > 0 := of_decide_eq_true h'
      exact congrArg (fun i => Res.fr (.int i)) (Int.sign_eq_one_of_pos h')
    · have h' : ¬ x.num > 0 := fun z => h' (decide_eq_true z)
      exact congrArg (fun i => Res.fr (.int i)) (by rw [show x.num = 0 by omega]; rfl)
theorem d_sign_of (T : Tx K mg) : Gd P w K mg base "sign_of" 1 [] ((ct_sign_of K).sp K) := by
  obtain ⟨fd, F⟩ := T.d_sign_of
  exact gd_of T.g_sign_of F.kp (F.bindsN fun _ _ _ _ _ _ us hl => match us, hl with | [_], _ => rfl) (ok_sign_of T F)
end
end W86
end
section
set_option Elab.async false
set_option linter.all false
set_option maxRecDepth 100000
set_option maxHeartbeats 4000000
set_option exponentiation.threshold 100000
/-! WB: the function 1: polys of one number. -/
namespace W86
open PySem PySem.Spec PyProof.Rows L2 Evl DL
open He (ga ma)
open He5 (wf)
abbrev P1 : D := .tup [oD]
abbrev L1 : D := .lst [.int 1]
theorem sz1 : Sz 1000 1 := ⟨by decide +kernel, by decide +kernel⟩
theorem sz0 : Sz 1000 0 := ⟨by decide +kernel, by decide +kernel⟩
theorem two11 : Two 1 1 := ⟨1000, 1000, sz1, sz1, by decide⟩
theorem two01 : Two 0 1 := ⟨1000, 1000, sz0, sz1, by decide⟩
theorem divS {i j : Int} (h : 0 < j) (hn : j < 1000) : CDivW i j := div_ok h (by
  have e : (1000 : Nat) < 2 ^ 9000 := by decide +kernel
  omega)
theorem mulS {i j : Int} (h : i.natAbs < 2 ^ 100) (hn : j.natAbs < 2 ^ 100) : CMul i j ∨ CMulW i j := .inr (wide_mul h hn (by decide) (by decide) (by decide))
section
variable {P : Program} {w : World} {K : Fr} {mg : Str → Option Value} {base : Heap}
/-- trimmed: of [1], of [0] -/
def ct_trimmed (K : Fr) : Ct := ⟨Bool, fun b => [.lst [if b then oD else zD]], fun _ => True, fun b => .fr (if b then P1 else .tup [])⟩
theorem ok_trimmed (T : Tx K mg) {fd : FuncData} (F : L2.FunD K a_trimmed.name a_trimmed.qual a_trimmed.params a_trimmed.body a_trimmed.scope [] [] (ga K "trimmed") fd) : FnOk P w K mg base CX0 1 (ga K "trimmed") fd ["row"] ((ct_trimmed K).sp K) := by
  refine ct_ok F sc_trimmed (fun a => rfl) fun cdv A outer s H E hr => ?_
  refine ⟨_, _, (pdss_cons (pds_set 1 (pd_callB1 call_lenA vo_len T.b_len (pd_name 0)) sc_trimmed.nd)
  (pdss_cons (pds_while PassesOwn.never (PDW.pdt (pdw_and (pdt_cmp op_gt vo_cmp (pd_name 1) pd_int (nomark _)) (pdw_and1 (pdt_cmp (op_eqD hr.units) vo_eq (pd_ix ix_seq vo_ix (pd_ix ix_seq vo_ix (pd_name 0) (pd_op op_sub vo_sub (pd_name 1) pd_int) (fun _ _ => rfl)) pd_int (fun _ _ => rfl)) pd_int (nomark _)))))
  (pdss_one (pds_set 1 (pd_op op_sub vo_sub (pd_name 1) pd_int) sc_trimmed.nd)))
  (pdss_one (pds_ret (pd_callTy1 call_tuple_of vo_tupOf T.b_tuple (pd_slice sl_any vo_sl (pd_name 0) pdo_none (pdo_some (pd_name 1)))))))), ?_⟩
  rintro b _
  cases b with
  | true => exact ⟨1, rfl⟩
  | false => exact ⟨2, rfl⟩
theorem d_trimmed (T : Tx K mg) : Gd P w K mg base "trimmed" 1 [] ((ct_trimmed K).sp K) := by
  obtain ⟨fd, F⟩ := T.d_trimmed
  exact gd_of T.g_trimmed F.kp (F.bindsN fun _ _ _ _ _ _ us hl => match us, hl with | [_], _ => rfl) (ok_trimmed T F)
def ct_poly (K : Fr) : Ct := ⟨Unit, fun _ => [P1], fun _ => True, fun _ => .fr P1⟩
theorem ok_poly (T : Tx K mg) {fd : FuncData} (F : L2.FunD K a_poly.name a_poly.qual a_poly.params a_poly.body a_poly.scope [] [] (ga K "poly") fd) : FnOk P w K mg base CX0 4 (ga K "poly") fd ["row"] ((ct_poly K).sp K) := by
  refine ct_ok F sc_poly (fun a => rfl) fun cdv A outer s H E hr => ?_
  refine ⟨_, _, (pdss_cons (pds_if (pdt_not (pdt_val (pd_isTL T.b_isinstance T.b_tuple T.b_list (pd_name 0)))) (pdss_one pds_never) pdss_nil)
  (pdss_one (pds_ret (pd_call (d_trimmed T) (hr.mono (by decide)) (pda_cons (pd_lc [("x", 1)] 1 rfl sc_poly.nd (pdi_seq (pd_name 0)) (fun _ _ _ _ _ => pdts_nil) (fun _ _ _ _ _ => (pd_call (d_check_number T) (hr.mono (by decide)) (pda_cons (pd_name 1) pda_nil))) (fun _ _ _ _ _ => pg_name (i := 1) sc_poly.nd rfl (Or.inl rfl)) (show blkC NN_poly (defScope s_poly) _ [("x", 1)] = true by decide +kernel)) pda_nil))))), ?_⟩
  rintro _ _
  refine ⟨(1 : Rat), rfl, sz1, ?_⟩
  refine ⟨by decide, ?_⟩
  exact ⟨true, rfl, trivial, rfl⟩
theorem d_poly (T : Tx K mg) : Gd P w K mg base "poly" 4 [] ((ct_poly K).sp K) := by
  obtain ⟨fd, F⟩ := T.d_poly
  exact gd_of T.g_poly F.kp (F.bindsN fun _ _ _ _ _ _ us hl => match us, hl with | [_], _ => rfl) (ok_poly T F)
def ct_cleared (K : Fr) : Ct := ⟨Unit, fun _ => [P1], fun _ => True, fun _ => .fr (.tup [L1, .int 1])⟩
theorem ok_cleared (T : Tx K mg) {fd : FuncData} (F : L2.FunD K a_cleared.name a_cleared.qual a_cleared.params a_cleared.body a_cleared.scope [] [] (ga K "cleared") fd) : FnOk P w K mg base CX0 1 (ga K "cleared") fd ["p"] ((ct_cleared K).sp K) := by
  refine ct_ok F sc_cleared (fun a => rfl) fun cdv A outer s H E hr => ?_
  refine ⟨_, _, (pdss_cons (pds_set 1 pd_int sc_cleared.nd)
  (pdss_cons (pds_for PassesOwn.never rfl (pdi_seq (pd_name 0)) (pdg_name 2 sc_cleared.nd)
  (pdss_one (pds_set 1 (pd_callF cr_lcm vo_lcm T.g_lcm (pda_cons (pd_name 1) (pda_cons (pd_ix ix_seq vo_ix (pd_name 2) pd_int (fun _ _ => rfl)) pda_nil))) sc_cleared.nd)))
  (pdss_one (pds_ret (pd_tup (pda_cons (pd_lc [("c", 2)] 2 rfl sc_cleared.nd (pdi_seq (pd_name 0)) (fun _ _ _ _ _ => pdts_nil) (fun _ _ _ _ _ => (pd_op op_mulA vo_mul (pd_ix ix_seq vo_ix (pd_name 2) pd_int (fun _ _ => rfl)) (pd_op op_fdivW vo_fdiv (pd_name 1) (pd_ix ix_seq vo_ix (pd_name 2) pd_int (fun _ _ => rfl))))) (fun _ _ _ _ _ => pg_name (i := 2) sc_cleared.nd rfl (Or.inl rfl)) (show blkC NN_cleared (defScope s_cleared) _ [("c", 2)] = true by decide +kernel)) (pda_cons (pd_name 1) pda_nil))))))), ?_⟩
  rintro _ _
  repeat (first | exact rfl | refine ⟨by decide, ?_⟩ | refine ⟨⟨by decide, by decide⟩, ?_⟩ | refine ⟨mulS (by decide) (by decide), ?_⟩ | refine ⟨divS (by decide) (by decide), ?_⟩)
theorem d_cleared (T : Tx K mg) : Gd P w K mg base "cleared" 1 [] ((ct_cleared K).sp K) := by
  obtain ⟨fd, F⟩ := T.d_cleared
  exact gd_of T.g_cleared F.kp (F.bindsN fun _ _ _ _ _ _ us hl => match us, hl with | [_], _ => rfl) (ok_cleared T F)
def ct_primitive (K : Fr) : Ct := ⟨Bool, fun b => [.lst (if b then [.int 1] else [])], fun _ => True, fun b => .ow (.lst (if b then [.int 1] else []))⟩
theorem ok_primitive (T : Tx K mg) {fd : FuncData} (F : L2.FunD K a_primitive.name a_primitive.qual a_primitive.params a_primitive.body a_primitive.scope [] [] (ga K "primitive") fd) : FnOk P w K mg base CX0 1 (ga K "primitive") fd ["row"] ((ct_primitive K).sp K) := by
  refine ct_ok F sc_primitive (fun a => rfl) fun cdv A outer s H E hr => ?_
  refine ⟨_, _, (pdss_cons (pds_set 1 pd_int sc_primitive.nd)
  (pdss_cons (pds_for PassesOwn.never rfl (pdi_seq (pd_name 0)) (pdg_name 2 sc_primitive.nd)
  (pdss_one (pds_set 1 (pd_callF cr_gcd vo_gcd T.g_gcd (pda_cons (pd_name 1) (pda_cons (pd_name 2) pda_nil))) sc_primitive.nd)))
  (pdss_one (pds_ret (pd_lc [("c", 2)] 2 rfl sc_primitive.nd (pdi_seq (pd_name 0)) (fun _ _ _ _ _ => pdts_nil) (fun _ _ _ _ _ => (pd_op op_fdivW vo_fdiv (pd_name 2) (pd_callB (call_max2 rfl) vo_max2 T.b_max (pda_cons pd_int (pda_cons (pd_name 1) pda_nil))))) (fun _ _ _ _ _ => pg_name (i := 2) sc_primitive.nd rfl (Or.inl rfl)) (show blkC NN_primitive (defScope s_primitive) _ [("c", 2)] = true by decide +kernel)))))), ?_⟩
  rintro b _
  cases b with
  | true => repeat (first | exact rfl | refine ⟨by decide, ?_⟩ | refine ⟨⟨by decide, by decide⟩, ?_⟩ | refine ⟨mulS (by decide) (by decide), ?_⟩ | refine ⟨divS (by decide) (by decide), ?_⟩)
  | false => repeat (first | exact rfl | refine ⟨by decide, ?_⟩ | refine ⟨⟨by decide, by decide⟩, ?_⟩ | refine ⟨mulS (by decide) (by decide), ?_⟩ | refine ⟨divS (by decide) (by decide), ?_⟩)
theorem d_primitive (T : Tx K mg) : Gd P w K mg base "primitive" 1 [] ((ct_primitive K).sp K) := by
  obtain ⟨fd, F⟩ := T.d_primitive
  exact gd_of T.g_primitive F.kp (F.bindsN fun _ _ _ _ _ _ us hl => match us, hl with | [_], _ => rfl) (ok_primitive T F)
def ct_whole_numbers (K : Fr) : Ct := ⟨Unit, fun _ => [P1], fun _ => True, fun _ => .ow (.lst [.int 1])⟩
theorem ok_whole_numbers (T : Tx K mg) {fd : FuncData} (F : L2.FunD K a_whole_numbers.name a_whole_numbers.qual a_whole_numbers.params a_whole_numbers.body a_whole_numbers.scope [] [] (ga K "whole_numbers") fd) : FnOk P w K mg base CX0 2 (ga K "whole_numbers") fd ["p"] ((ct_whole_numbers K).sp K) := by
  refine ct_ok F sc_whole_numbers (fun a => rfl) fun cdv A outer s H E hr => ?_
  refine ⟨_, _, (pdss_cons (pds_asg (pd_call (d_cleared T) (hr.mono (by decide)) (pda_cons (pd_name 0) pda_nil)) (pdg_tup rfl (pdgs_cons (pdg_name 1 sc_whole_numbers.nd) (pdgs_cons (pdg_name 2 sc_whole_numbers.nd) pdgs_nil))))
  (pdss_one (pds_ret (pd_call (d_primitive T) (hr.mono (by decide)) (pda_cons (pd_name 1) pda_nil))))), ?_⟩
  rintro _ _
  refine ⟨(), rfl, trivial, ?_⟩
  exact ⟨true, rfl, trivial, rfl⟩
theorem d_whole_numbers (T : Tx K mg) : Gd P w K mg base "whole_numbers" 2 [] ((ct_whole_numbers K).sp K) := by
  obtain ⟨fd, F⟩ := T.d_whole_numbers
  exact gd_of T.g_whole_numbers F.kp (F.bindsN fun _ _ _ _ _ _ us hl => match us, hl with | [_], _ => rfl) (ok_whole_numbers T F)
def ct_whole_rest (K : Fr) : Ct := ⟨Unit, fun _ => [L1, L1], fun _ => True, fun _ => .ow (.lst [])⟩
theorem ok_whole_rest (T : Tx K mg) {fd : FuncData} (F : L2.FunD K a_whole_rest.name a_whole_rest.qual a_whole_rest.params a_whole_rest.body a_whole_rest.scope [] [] (ga K "whole_rest") fd) : FnOk P w K mg base CX0 2 (ga K "whole_rest") fd ["a", "b"] ((ct_whole_rest K).sp K) := by
  refine ct_ok F sc_whole_rest (fun a => rfl) fun cdv A outer s H E hr => ?_
  refine ⟨_, _, (pdss_cons (pds_set 2 (pd_callB1 call_abs vo_abs T.b_abs (pd_ix ix_seq vo_ix (pd_name 1) (pd_un un_neg vo_neg pd_int) (fun _ _ => rfl))) sc_whole_rest.nd)
  (pdss_cons (pds_set 3 (pd_ifExp (pdt_cmp op_gt vo_cmp (pd_ix ix_seq vo_ix (pd_name 1) (pd_un un_neg vo_neg pd_int) (fun _ _ => rfl)) pd_int (nomark _)) pd_int (pd_un un_neg vo_neg pd_int)) sc_whole_rest.nd)
  (pdss_cons (pds_set 4 (pd_callTy1 call_list_of vo_lstOf T.b_list (pd_name 0)) sc_whole_rest.nd)
  (pdss_cons (pds_while PassesOwn.never (pdt_cmp op_ge vo_cmp (pd_callB1 call_lenA vo_len T.b_len (pd_name 4)) (pd_callB1 call_lenA vo_len T.b_len (pd_name 1)) (nomark _))
  (pdss_cons (pds_set 5 (pd_op op_mulA vo_mul (pd_name 3) (pd_ix ix_seq vo_ix (pd_name 4) (pd_un un_neg vo_neg pd_int) (fun _ _ => rfl))) sc_whole_rest.nd)
  (pdss_cons (pds_set 6 (pd_op op_sub vo_sub (pd_callB1 call_lenA vo_len T.b_len (pd_name 4)) (pd_callB1 call_lenA vo_len T.b_len (pd_name 1))) sc_whole_rest.nd)
  (pdss_cons (pds_setLc 4 [("c", 8)] 8 rfl sc_whole_rest.nd (pdi_seq (pd_name 4)) (fun _ _ _ _ _ => pdts_nil) (fun _ _ _ _ _ => (pd_op op_mulA vo_mul (pd_name 2) (pd_name 8))) (fun _ _ _ _ _ => pg_name (i := 8) sc_whole_rest.nd rfl (Or.inl rfl)) (show blkC NN_whole_rest (defScope s_whole_rest) _ [("c", 8)] = true by decide +kernel))
  (pdss_cons (pds_for PassesOwn.never rfl (pdi_range1 T.b_range (pda_cons (pd_callB1 call_lenA vo_len T.b_len (pd_name 1)) pda_nil)) (pdg_name 7 sc_whole_rest.nd)
  (pdss_one (pds_setIx 4 (pd_op op_sub vo_sub (pd_ix ix_seq vo_ix (pd_name 4) (pd_op op_addA vo_add (pd_name 6) (pd_name 7)) (fun _ _ => rfl)) (pd_op op_mulA vo_mul (pd_name 5) (pd_ix ix_seq vo_ix (pd_name 1) (pd_name 7) (fun _ _ => rfl)))) (pd_op op_addA vo_add (pd_name 6) (pd_name 7)))))
  (pdss_one (pds_while PassesOwn.never (PDW.pdt (pdw_and (pdt_cmp op_gt vo_cmp (pd_callB1 call_lenA vo_len T.b_len (pd_name 4)) pd_int (nomark _)) (pdw_and1 (pdt_cmp (op_eqD hr.units) vo_eq (pd_ix ix_seq vo_ix (pd_name 4) (pd_un un_neg vo_neg pd_int) (fun _ _ => rfl)) pd_int (nomark _)))))
  (pdss_one (pds_expr (pd_pop 4))))))))))
  (pdss_one (pds_ret (pd_call (d_primitive T) (hr.mono (by decide)) (pda_cons (pd_name 4) pda_nil)))))))), ?_⟩
  rintro _ _
  refine ⟨2, whD_at [.fr L1, .fr L1, .fr (.int 1), .fr (.int 1), .ow (.lst [.int 1]), .un, .un, .un, .un] rfl ?_⟩
  refine ⟨mulS (by decide) (by decide), ?_⟩
  refine ⟨mulS (by decide) (by decide), ?_⟩
  refine ⟨by decide, ?_⟩
  refine ⟨⟨by decide, by decide⟩, ?_⟩
  refine forD_is [.int 0] [.fr L1, .fr L1, .fr (.int 1), .fr (.int 1), .ow (.lst [.int 1]), .fr (.int 1), .fr (.int 0), .un, .un] rfl rfl ?_
  refine ⟨mulS (by decide) (by decide), ?_⟩
  refine ⟨2, ?_⟩
  refine whD_at [.fr L1, .fr L1, .fr (.int 1), .fr (.int 1), .ow (.lst [.int 0]), .fr (.int 1), .fr (.int 0), .fr (.int 0), .un] rfl ?_
  exact ⟨false, rfl, trivial, rfl⟩
theorem d_whole_rest (T : Tx K mg) : Gd P w K mg base "whole_rest" 2 [] ((ct_whole_rest K).sp K) := by
  obtain ⟨fd, F⟩ := T.d_whole_rest
  exact gd_of T.g_whole_rest F.kp (F.bindsN fun _ _ _ _ _ _ us hl => match us, hl with | [_, _], _ => rfl) (ok_whole_rest T F)
def ct_common (K : Fr) : Ct := ⟨Unit, fun _ => [P1, P1], fun _ => True, fun _ => .fr P1⟩
theorem ok_common (T : Tx K mg) {fd : FuncData} (F : L2.FunD K a_common.name a_common.qual a_common.params a_common.body a_common.scope [] [] (ga K "common") fd) : FnOk P w K mg base CX0 3 (ga K "common") fd ["p", "q"] ((ct_common K).sp K) := by
  refine ct_ok F sc_common (fun a => rfl) fun cdv A outer s H E hr => ?_
  refine ⟨_, _, (pdss_cons (pds_set 2 (pd_call (d_whole_numbers T) (hr.mono (by decide)) (pda_cons (pd_name 0) pda_nil)) sc_common.nd)
  (pdss_cons (pds_set 3 (pd_call (d_whole_numbers T) (hr.mono (by decide)) (pda_cons (pd_name 1) pda_nil)) sc_common.nd)
  (pdss_cons (pds_while PassesOwn.never (pdt_cmp op_gt vo_cmp (pd_callB1 call_lenA vo_len T.b_len (pd_name 3)) pd_int (nomark _))
  (pdss_cons (pds_set 4 (pd_call (d_whole_rest T) (hr.mono (by decide)) (pda_cons (pd_name 2) (pda_cons (pd_name 3) pda_nil))) sc_common.nd)
  (pdss_cons (pds_set 2 (pd_name 3) sc_common.nd)
  (pdss_one (pds_set 3 (pd_name 4) sc_common.nd)))))
  (pdss_one (pds_ret (pd_callTy1 call_tuple_of vo_tupOf T.b_tuple (pd_lc [("c", 5)] 5 rfl sc_common.nd (pdi_seq (pd_name 2)) (fun _ _ _ _ _ => pdts_nil) (fun _ _ _ _ _ => (pd_call (d_lowest T) (hr.mono (by decide)) (pda_cons (pd_name 5) (pda_cons (pd_ix ix_seq vo_ix (pd_name 2) (pd_un un_neg vo_neg pd_int) (fun _ _ => rfl)) pda_nil)))) (fun _ _ _ _ _ => pg_name (i := 5) sc_common.nd rfl (Or.inl rfl)) (show blkC NN_common (defScope s_common) _ [("c", 5)] = true by decide +kernel)))))))), ?_⟩
  rintro _ _
  refine ⟨(), rfl, trivial, ?_⟩
  refine ⟨(), rfl, trivial, ?_⟩
  refine ⟨2, ?_⟩
  refine ⟨(), rfl, trivial, ?_⟩
  refine ⟨(1, 1), rfl, ⟨by decide, by decide +kernel⟩, ?_⟩
  repeat (first | exact rfl | refine ⟨by decide, ?_⟩ | refine ⟨⟨by decide, by decide⟩, ?_⟩ | refine ⟨mulS (by decide) (by decide), ?_⟩ | refine ⟨divS (by decide) (by decide), ?_⟩)
theorem d_common (T : Tx K mg) : Gd P w K mg base "common" 3 [] ((ct_common K).sp K) := by
  obtain ⟨fd, F⟩ := T.d_common
  exact gd_of T.g_common F.kp (F.bindsN fun _ _ _ _ _ _ us hl => match us, hl with | [_, _], _ => rfl) (ok_common T F)
end
end W86
end
section
set_option Elab.async false
set_option linter.all false
set_option maxRecDepth 100000
set_option maxHeartbeats 4000000
set_option exponentiation.threshold 100000
/-! WC: the function 1: Func. -/
namespace W86
open PySem PySem.Spec PyProof.Rows L2 Evl DL
open He (ga ma)
open He5 (wf)
/-- the function 1 -/
def fone (K : Fr) : D := .obj (ga K "Func") ["num", "den"] [P1, P1]
section
variable {P : Program} {w : World} {K : Fr} {mg : Str → Option Value} {base : Heap}
theorem ndiv : num (((1 : Rat), (1 : Rat)).fst / ((1 : Rat), (1 : Rat)).snd) = oD := by
  show num ((1 : Rat) / 1) = oD
  rw [show (1 : Rat) / 1 = 1 by grind]
  rfl
theorem nmul : num (((1 : Rat), (1 : Rat)).fst * ((1 : Rat), (1 : Rat)).snd) = oD := by
  show num ((1 : Rat) * 1) = oD
  rw [show (1 : Rat) * 1 = 1 by grind]
  rfl
theorem nsub : num ((1 : Rat) - 1) = zD := by
  rw [show (1 : Rat) - 1 = 0 by grind]
  rfl
theorem nlow {i j : Int} (hi : i = 1) (hj : j = 1) : num (Rat.divInt i j) = oD := by
  subst hi hj
  rfl
def ct_divided (K : Fr) : Ct := ⟨Unit, fun _ => [P1, P1], fun _ => True, fun _ => .fr (.tup [P1, .tup []])⟩
theorem ok_divided (T : Tx K mg) {fd : FuncData} (F : L2.FunD K a_divided.name a_divided.qual a_divided.params a_divided.body a_divided.scope [] [] (ga K "divided") fd) : FnOk P w K mg base CX0 4 (ga K "divided") fd ["p", "q"] ((ct_divided K).sp K) := by
  refine ct_ok F sc_divided (fun a => rfl) fun cdv A outer s H E hr => ?_
  refine ⟨_, _, (pdss_cons (pds_if (pdt_cmp (op_eqD hr.units) vo_eq (pd_callB1 call_lenA vo_len T.b_len (pd_name 1)) pd_int (nomark _)) (pdss_one pds_never) pdss_nil)
  (pdss_cons (pds_set 2 (pd_callTy1 call_list_of vo_lstOf T.b_list (pd_name 0)) sc_divided.nd)
  (pdss_cons (pds_setLc 3 [("k", 4)] 4 rfl sc_divided.nd (pdi_range1 T.b_range (pda_cons (pd_op op_addA vo_add (pd_op op_sub vo_sub (pd_callB1 call_lenA vo_len T.b_len (pd_name 0)) (pd_callB1 call_lenA vo_len T.b_len (pd_name 1))) pd_int) pda_nil)) (fun _ _ _ _ _ => pdts_nil) (fun _ _ _ _ _ => (pd_kon T.k_ZERO)) (fun _ _ _ _ _ => pg_name (i := 4) sc_divided.nd rfl (Or.inl rfl)) (show blkC NN_divided (defScope s_divided) _ [("k", 4)] = true by decide +kernel))
  (pdss_cons (pds_for PassesOwn.never rfl (pdi_range3 T.b_range (pda_cons (pd_op op_sub vo_sub (pd_callB1 call_lenA vo_len T.b_len (pd_name 0)) (pd_callB1 call_lenA vo_len T.b_len (pd_name 1))) (pda_cons (pd_un un_neg vo_neg pd_int) (pda_cons (pd_un un_neg vo_neg pd_int) pda_nil)))) (pdg_name 4 sc_divided.nd)
  (pdss_cons (pds_set 5 (pd_call (d_over T) (hr.mono (by decide)) (pda_cons (pd_ix ix_seq vo_ix (pd_name 2) (pd_op op_sub vo_sub (pd_op op_addA vo_add (pd_name 4) (pd_callB1 call_lenA vo_len T.b_len (pd_name 1))) pd_int) (fun _ _ => rfl)) (pda_cons (pd_ix ix_seq vo_ix (pd_name 1) (pd_un un_neg vo_neg pd_int) (fun _ _ => rfl)) pda_nil))) sc_divided.nd)
  (pdss_cons (pds_setIx 3 (pd_name 5) (pd_name 4))
  (pdss_one (pds_for PassesOwn.never rfl (pdi_range1 T.b_range (pda_cons (pd_callB1 call_lenA vo_len T.b_len (pd_name 1)) pda_nil)) (pdg_name 6 sc_divided.nd)
  (pdss_one (pds_setIx 2 (pd_call (d_minus T) (hr.mono (by decide)) (pda_cons (pd_ix ix_seq vo_ix (pd_name 2) (pd_op op_addA vo_add (pd_name 4) (pd_name 6)) (fun _ _ => rfl)) (pda_cons (pd_call (d_product_of T) (hr.mono (by decide)) (pda_cons (pd_name 5) (pda_cons (pd_ix ix_seq vo_ix (pd_name 1) (pd_name 6) (fun _ _ => rfl)) pda_nil))) pda_nil))) (pd_op op_addA vo_add (pd_name 4) (pd_name 6)))))))))
  (pdss_one (pds_ret (pd_tup (pda_cons (pd_call (d_trimmed T) (hr.mono (by decide)) (pda_cons (pd_name 3) pda_nil)) (pda_cons (pd_call (d_trimmed T) (hr.mono (by decide)) (pda_cons (pd_name 2) pda_nil)) pda_nil))))))))), ?_⟩
  rintro _ _
  refine ⟨⟨by decide, by decide⟩, ?_⟩
  refine lcD_at [.fr P1, .fr P1, .ow (.lst [oD]), .un, .un, .un, .un] rfl ?_
  refine ⟨by decide, ?_⟩
  refine ⟨⟨rfl, ⟨⟨by decide, by decide⟩, ⟨by decide, by decide⟩⟩⟩, ?_⟩
  refine forD_is [.int 0] [.fr P1, .fr P1, .ow (.lst [oD]), .ow (.lst [zD]), .un, .un, .un] rfl rfl ?_
  refine ⟨((1 : Rat), (1 : Rat)), rfl, ⟨two11, by decide⟩, ?_⟩
  refine ⟨⟨by decide, by decide⟩, ?_⟩
  refine forD_is [.int 0] [.fr P1, .fr P1, .ow (.lst [oD]), .ow (.lst [oD]), .fr (.int 0), .fr oD, .un] (by rw [ndiv]; rfl) rfl ?_
  refine ⟨((1 : Rat), (1 : Rat)), rfl, two11, ?_⟩
  refine ⟨((1 : Rat), (1 : Rat)), by rw [nmul]; rfl, two11, ?_⟩
  refine forD_is [] [.fr P1, .fr P1, .ow (.lst [zD]), .ow (.lst [oD]), .fr (.int 0), .fr oD, .fr (.int 0)] (by
    have e : num (((1 : Rat), (1 : Rat)).fst - ((1 : Rat), (1 : Rat)).snd) = zD := nsub
    rw [e]
    rfl) rfl ?_
  refine ⟨true, rfl, trivial, ?_⟩
  exact ⟨false, rfl, trivial, rfl⟩
theorem d_divided (T : Tx K mg) : Gd P w K mg base "divided" 4 [] ((ct_divided K).sp K) := by
  obtain ⟨fd, F⟩ := T.d_divided
  exact gd_of T.g_divided F.kp (F.bindsN fun _ _ _ _ _ _ us hl => match us, hl with | [_, _], _ => rfl) (ok_divided T F)
def ct_poly_scaled (K : Fr) : Ct := ⟨Unit, fun _ => [P1, oD], fun _ => True, fun _ => .fr P1⟩
theorem ok_poly_scaled (T : Tx K mg) {fd : FuncData} (F : L2.FunD K a_poly_scaled.name a_poly_scaled.qual a_poly_scaled.params a_poly_scaled.body a_poly_scaled.scope [] [] (ga K "poly_scaled") fd) : FnOk P w K mg base CX0 3 (ga K "poly_scaled") fd ["p", "x"] ((ct_poly_scaled K).sp K) := by
  refine ct_ok F sc_poly_scaled (fun a => rfl) fun cdv A outer s H E hr => ?_
  refine ⟨_, _, (pdss_cons (pds_if (pdt_cmp (op_eqD hr.units) vo_eq (pd_ix ix_seq vo_ix (pd_name 1) pd_int (fun _ _ => rfl)) pd_int (nomark _)) (pdss_one (pds_ret (pd_tup pda_nil))) pdss_nil)
  (pdss_one (pds_ret (pd_callTy1 call_tuple_of vo_tupOf T.b_tuple (pd_lc [("c", 2)] 2 rfl sc_poly_scaled.nd (pdi_seq (pd_name 0)) (fun _ _ _ _ _ => pdts_nil) (fun _ _ _ _ _ => (pd_call (d_product_of T) (hr.mono (by decide)) (pda_cons (pd_name 2) (pda_cons (pd_name 1) pda_nil)))) (fun _ _ _ _ _ => pg_name (i := 2) sc_poly_scaled.nd rfl (Or.inl rfl)) (show blkC NN_poly_scaled (defScope s_poly_scaled) _ [("c", 2)] = true by decide +kernel)))))), ?_⟩
  rintro _ _
  refine ⟨((1 : Rat), (1 : Rat)), rfl, two11, ?_⟩
  refine ⟨by decide, ?_⟩
  exact lcD_is [] [oD] [.fr P1, .fr oD, .un] rfl rfl (by rw [nmul]; rfl) rfl
theorem d_poly_scaled (T : Tx K mg) : Gd P w K mg base "poly_scaled" 3 [] ((ct_poly_scaled K).sp K) := by
  obtain ⟨fd, F⟩ := T.d_poly_scaled
  exact gd_of T.g_poly_scaled F.kp (F.bindsN fun _ _ _ _ _ _ us hl => match us, hl with | [_, _], _ => rfl) (ok_poly_scaled T F)
def ct_poly_times (K : Fr) : Ct := ⟨Unit, fun _ => [P1, P1], fun _ => True, fun _ => .fr P1⟩
theorem ok_poly_times (T : Tx K mg) {fd : FuncData} (F : L2.FunD K a_poly_times.name a_poly_times.qual a_poly_times.params a_poly_times.body a_poly_times.scope [] [] (ga K "poly_times") fd) : FnOk P w K mg base CX0 2 (ga K "poly_times") fd ["p", "q"] ((ct_poly_times K).sp K) := by
  refine ct_ok F sc_poly_times (fun a => rfl) fun cdv A outer s H E hr => ?_
  refine ⟨_, _, (pdss_cons (pds_if (PDW.pdt (pdw_or (pdt_cmp (op_eqD hr.units) vo_eq (pd_callB1 call_lenA vo_len T.b_len (pd_name 0)) pd_int (nomark _)) (pdw_or1 (pdt_cmp (op_eqD hr.units) vo_eq (pd_callB1 call_lenA vo_len T.b_len (pd_name 1)) pd_int (nomark _))))) (pdss_one (pds_ret (pd_tup pda_nil))) pdss_nil)
  (pdss_cons (pds_asg (pd_call (d_cleared T) (hr.mono (by decide)) (pda_cons (pd_name 0) pda_nil)) (pdg_tup rfl (pdgs_cons (pdg_name 2 sc_poly_times.nd) (pdgs_cons (pdg_name 3 sc_poly_times.nd) pdgs_nil))))
  (pdss_cons (pds_asg (pd_call (d_cleared T) (hr.mono (by decide)) (pda_cons (pd_name 1) pda_nil)) (pdg_tup rfl (pdgs_cons (pdg_name 4 sc_poly_times.nd) (pdgs_cons (pdg_name 5 sc_poly_times.nd) pdgs_nil))))
  (pdss_cons (pds_setLc 6 [("k", 8)] 8 rfl sc_poly_times.nd (pdi_range1 T.b_range (pda_cons (pd_op op_sub vo_sub (pd_op op_addA vo_add (pd_callB1 call_lenA vo_len T.b_len (pd_name 2)) (pd_callB1 call_lenA vo_len T.b_len (pd_name 4))) pd_int) pda_nil)) (fun _ _ _ _ _ => pdts_nil) (fun _ _ _ _ _ => pd_int) (fun _ _ _ _ _ => pg_name (i := 8) sc_poly_times.nd rfl (Or.inl rfl)) (show blkC NN_poly_times (defScope s_poly_times) _ [("k", 8)] = true by decide +kernel))
  (pdss_cons (pds_for PassesOwn.never rfl (pdi_range1 T.b_range (pda_cons (pd_callB1 call_lenA vo_len T.b_len (pd_name 2)) pda_nil)) (pdg_name 7 sc_poly_times.nd)
  (pdss_one (pds_for PassesOwn.never rfl (pdi_range1 T.b_range (pda_cons (pd_callB1 call_lenA vo_len T.b_len (pd_name 4)) pda_nil)) (pdg_name 8 sc_poly_times.nd)
  (pdss_one (pds_setIx 6 (pd_op op_addA vo_add (pd_ix ix_seq vo_ix (pd_name 6) (pd_op op_addA vo_add (pd_name 7) (pd_name 8)) (fun _ _ => rfl)) (pd_op op_mulA vo_mul (pd_ix ix_seq vo_ix (pd_name 2) (pd_name 7) (fun _ _ => rfl)) (pd_ix ix_seq vo_ix (pd_name 4) (pd_name 8) (fun _ _ => rfl)))) (pd_op op_addA vo_add (pd_name 7) (pd_name 8)))))))
  (pdss_one (pds_ret (pd_callTy1 call_tuple_of vo_tupOf T.b_tuple (pd_lc [("c", 9)] 9 rfl sc_poly_times.nd (pdi_seq (pd_name 6)) (fun _ _ _ _ _ => pdts_nil) (fun _ _ _ _ _ => (pd_call (d_lowest T) (hr.mono (by decide)) (pda_cons (pd_name 9) (pda_cons (pd_op op_mulA vo_mul (pd_name 3) (pd_name 5)) pda_nil)))) (fun _ _ _ _ _ => pg_name (i := 9) sc_poly_times.nd rfl (Or.inl rfl)) (show blkC NN_poly_times (defScope s_poly_times) _ [("c", 9)] = true by decide +kernel)))))))))), ?_⟩
  rintro _ _
  refine ⟨(), rfl, trivial, ?_⟩
  refine ⟨(), rfl, trivial, ?_⟩
  refine ⟨⟨by decide, by decide⟩, ?_⟩
  refine lcD_is [.int 0] [] [.fr P1, .fr P1, .fr L1, .fr (.int 1), .fr L1, .fr (.int 1), .un, .un, .un, .un] rfl rfl rfl ?_
  refine ⟨by decide, ?_⟩
  refine ⟨⟨by decide, by decide⟩, ?_⟩
  refine forD_is [.int 0] [.fr P1, .fr P1, .fr L1, .fr (.int 1), .fr L1, .fr (.int 1), .ow (.lst [.int 0]), .un, .un, .un] rfl rfl ?_
  refine ⟨⟨by decide, by decide⟩, ?_⟩
  refine forD_is [.int 0] [.fr P1, .fr P1, .fr L1, .fr (.int 1), .fr L1, .fr (.int 1), .ow (.lst [.int 0]), .fr (.int 0), .un, .un] rfl rfl ?_
  refine ⟨mulS (by decide) (by decide), ?_⟩
  refine forD_is [] [.fr P1, .fr P1, .fr L1, .fr (.int 1), .fr L1, .fr (.int 1), .ow (.lst [.int 1]), .fr (.int 0), .fr (.int 0), .un] rfl rfl ?_
  refine ⟨mulS (by decide) (by decide), ?_⟩
  refine ⟨(1, 1), rfl, ⟨by decide, by decide +kernel⟩, ?_⟩
  refine ⟨by decide, ?_⟩
  exact lcD_is [] [oD] [.fr P1, .fr P1, .fr L1, .fr (.int 1), .fr L1, .fr (.int 1), .fr L1, .fr (.int 0), .fr (.int 0), .un] rfl rfl rfl rfl
theorem d_poly_times (T : Tx K mg) : Gd P w K mg base "poly_times" 2 [] ((ct_poly_times K).sp K) := by
  obtain ⟨fd, F⟩ := T.d_poly_times
  exact gd_of T.g_poly_times F.kp (F.bindsN fun _ _ _ _ _ _ us hl => match us, hl with | [_, _], _ => rfl) (ok_poly_times T F)
def ct_check_sides (K : Fr) : Ct := ⟨Unit, fun _ => [P1, .int 40], fun _ => True, fun _ => .fr P1⟩
theorem ok_check_sides (T : Tx K mg) {fd : FuncData} (F : L2.FunD K a_check_sides.name a_check_sides.qual a_check_sides.params a_check_sides.body a_check_sides.scope [] [] (ga K "check_sides") fd) : FnOk P w K mg base CX0 1 (ga K "check_sides") fd ["p", "bound"] ((ct_check_sides K).sp K) := by
  refine ct_ok F sc_check_sides (fun a => rfl) fun cdv A outer s H E hr => ?_
  refine ⟨_, _, (pdss_cons (pds_if (pdt_cmp op_gt vo_cmp (pd_callB1 call_lenA vo_len T.b_len (pd_name 0)) (pd_op op_addA vo_add (pd_name 1) pd_int) (nomark _)) (pdss_one pds_never) pdss_nil)
  (pdss_one (pds_ret (pd_name 0)))), ?_⟩
  exact fun _ _ => rfl
theorem d_check_sides (T : Tx K mg) : Gd P w K mg base "check_sides" 1 [] ((ct_check_sides K).sp K) := by
  obtain ⟨fd, F⟩ := T.d_check_sides
  exact gd_of T.g_check_sides F.kp (F.bindsN fun _ _ _ _ _ _ us hl => match us, hl with | [_, _], _ => rfl) (ok_check_sides T F)
def ct_func_form (K : Fr) : Ct := ⟨Unit, fun _ => [P1, P1], fun _ => True, fun _ => .fr (.tup [P1, P1])⟩
theorem ok_func_form (T : Tx K mg) {fd : FuncData} (F : L2.FunD K a_func_form.name a_func_form.qual a_func_form.params a_func_form.body a_func_form.scope [] [] (ga K "func_form") fd) : FnOk P w K mg base CX0 5 (ga K "func_form") fd ["num", "den"] ((ct_func_form K).sp K) := by
  refine ct_ok F sc_func_form (fun a => rfl) fun cdv A outer s H E hr => ?_
  refine ⟨_, _, (pdss_cons (pds_if (pdt_cmp (op_eqD hr.units) vo_eq (pd_callB1 call_lenA vo_len T.b_len (pd_name 1)) pd_int (nomark _)) (pdss_one pds_never) pdss_nil)
  (pdss_cons (pds_set 2 (pd_call (d_common T) (hr.mono (by decide)) (pda_cons (pd_name 0) (pda_cons (pd_name 1) pda_nil))) sc_func_form.nd)
  (pdss_cons (pds_set 3 (pd_ix ix_seq vo_ix (pd_call (d_divided T) (hr.mono (by decide)) (pda_cons (pd_name 0) (pda_cons (pd_name 2) pda_nil))) pd_int (fun _ _ => rfl)) sc_func_form.nd)
  (pdss_cons (pds_set 4 (pd_ix ix_seq vo_ix (pd_call (d_divided T) (hr.mono (by decide)) (pda_cons (pd_name 1) (pda_cons (pd_name 2) pda_nil))) pd_int (fun _ _ => rfl)) sc_func_form.nd)
  (pdss_cons (pds_if (PDW.pdt (pdw_or (pdt_cmp (op_eqD hr.units) vo_eq (pd_callB1 call_lenA vo_len T.b_len (pd_name 3)) pd_int (nomark _)) (pdw_or (pdt_cmp (op_eqD hr.units) vo_eq (pd_ix ix_seq vo_ix (pd_ix ix_seq vo_ix (pd_name 4) pd_int (fun _ _ => rfl)) pd_int (fun _ _ => rfl)) pd_int (nomark _)) (pdw_or1 (pdt_cmp (op_neD hr.units) vo_ne (pd_ix ix_seq vo_ix (pd_name 3) pd_int (fun _ _ => rfl)) (pd_ix ix_seq vo_ix (pd_name 4) pd_int (fun _ _ => rfl)) (nomark _)))))) (pdss_one pds_never) pdss_nil)
  (pdss_cons (pds_set 5 (pd_call (d_over T) (hr.mono (by decide)) (pda_cons (pd_kon T.k_ONE) (pda_cons (pd_ix ix_seq vo_ix (pd_name 4) pd_int (fun _ _ => rfl)) pda_nil))) sc_func_form.nd)
  (pdss_one (pds_ret (pd_tup (pda_cons (pd_call (d_poly_scaled T) (hr.mono (by decide)) (pda_cons (pd_name 3) (pda_cons (pd_name 5) pda_nil))) (pda_cons (pd_call (d_poly_scaled T) (hr.mono (by decide)) (pda_cons (pd_name 4) (pda_cons (pd_name 5) pda_nil))) pda_nil))))))))))), ?_⟩
  rintro _ _
  refine ⟨(), rfl, trivial, ?_⟩
  refine ⟨(), rfl, trivial, ?_⟩
  refine ⟨(), rfl, trivial, ?_⟩
  refine ⟨((1 : Rat), (1 : Rat)), rfl, ⟨two11, by decide⟩, ?_⟩
  refine ⟨(), by rw [ndiv]; rfl, trivial, ?_⟩
  exact ⟨(), by rw [ndiv]; rfl, trivial, rfl⟩
theorem d_func_form (T : Tx K mg) : Gd P w K mg base "func_form" 5 [] ((ct_func_form K).sp K) := by
  obtain ⟨fd, F⟩ := T.d_func_form
  exact gd_of T.g_func_form F.kp (F.bindsN fun _ _ _ _ _ _ us hl => match us, hl with | [_, _], _ => rfl) (ok_func_form T F)
/-- Func(num, den), made -/
def cw_Func___init__ (K : Fr) : Cw := ⟨Unit, fun _ => .obj (ga K "Func") [] [], fun _ => [P1, P1], fun _ => True, fun _ => .fr .non, fun _ => .obj (ga K "Func") ["num", "den"] [P1, P1]⟩
theorem ok_Func___init__ (T : Tx K mg) {fd : FuncData} (F : L2.FunD K a_Func___init__.name a_Func___init__.qual a_Func___init__.params a_Func___init__.body a_Func___init__.scope [] [] (ma K (ga K "Func") "__init__") fd) : FnOk P w K mg base CX0 6 (ma K (ga K "Func") "__init__") fd ["self", "num", "den"] ((cw_Func___init__ K).sp K) := by
  refine cw_ok F sc_Func___init__ (fun a => rfl) fun cdv A outer s H E hr => ?_
  refine ⟨_, _, (pdss_cons (pds_set 3 (pd_call (d_check_sides T) (hr.mono (by decide)) (pda_cons (pd_call (d_poly T) (hr.mono (by decide)) (pda_cons (pd_name 1) pda_nil)) (pda_cons (pd_cattr T.a_Func_MOST) pda_nil))) sc_Func___init__.nd)
  (pdss_cons (pds_set 4 (pd_call (d_check_sides T) (hr.mono (by decide)) (pda_cons (pd_call (d_poly T) (hr.mono (by decide)) (pda_cons (pd_name 2) pda_nil)) (pda_cons (pd_cattr T.a_Func_MOST) pda_nil))) sc_Func___init__.nd)
  (pdss_one (pds_asg (pd_call (d_func_form T) (hr.mono (by decide)) (pda_cons (pd_name 3) (pda_cons (pd_name 4) pda_nil))) (pdg_tup rfl (pdgs_cons (pdg_fld 0) (pdgs_cons (pdg_fld 0) pdgs_nil))))))), ?_⟩
  rintro _ _
  refine ⟨(), rfl, trivial, ?_⟩
  refine ⟨(), rfl, trivial, ?_⟩
  refine ⟨(), rfl, trivial, ?_⟩
  refine ⟨(), rfl, trivial, ?_⟩
  refine ⟨(), rfl, trivial, ?_⟩
  refine ⟨_, _, _, rfl, T.c_Func, T.n_Func_num, by decide, ?_⟩
  exact ⟨_, _, _, rfl, T.c_Func, T.n_Func_den, by decide, rfl, rfl⟩
theorem mk_Func (T : Tx K mg) : Mkd P w K mg base "Func" (ga K "Func") 6 [] ((cw_Func___init__ K).sp K) := by
  obtain ⟨fd, F⟩ := T.d_Func___init__
  exact mkd_of T.g_Func T.mk_Func (F.bindsN fun _ _ _ _ _ _ us hl => match us, hl with | [_, _, _], _ => rfl) (ok_Func___init__ T F)
def ct_Func_one (K : Fr) : Ct := ⟨Unit, fun _ => [], fun _ => True, fun _ => .ow (.obj (ga K "Func") ["num", "den"] [P1, P1])⟩
theorem ok_Func_one (T : Tx K mg) {fd : FuncData} (F : L2.FunD K a_Func_one.name a_Func_one.qual a_Func_one.params a_Func_one.body a_Func_one.scope [] [] (wf K (ga K "Func") "staticmethod" "one") fd) : FnOk P w K mg base CX0 8 (wf K (ga K "Func") "staticmethod" "one") fd [] ((ct_Func_one K).sp K) := by
  refine ct_ok F sc_Func_one (fun a => rfl) fun cdv A outer s H E hr => ?_
  refine ⟨_, _, (pdss_one (pds_ret (pd_make (mk_Func T) (hr.mono (by decide)) (pda_cons (pd_tup (pda_cons (pd_kon T.k_ONE) pda_nil)) (pda_cons (pd_tup (pda_cons (pd_kon T.k_ONE) pda_nil)) pda_nil))))), ?_⟩
  rintro _ _
  exact ⟨(), rfl, rfl, trivial, rfl, rfl⟩
theorem sm_Func_one (T : Tx K mg) : Sme P w K mg base "Func" "one" (ga K "Func") 8 ((ct_Func_one K).sp K) := by
  obtain ⟨fd, F⟩ := T.d_Func_one
  exact sme_of T.o_Func T.g_Func T.q_Func_one (F.bindsN fun _ _ _ _ _ _ us hl => match us, hl with | [], _ => rfl) (ok_Func_one T F)
def ct_coprime_func (K : Fr) : Ct := ⟨Unit, fun _ => [P1, P1], fun _ => True, fun _ => .ow (.obj (ga K "Func") ["num", "den"] [P1, P1])⟩
theorem ok_coprime_func (T : Tx K mg) {fd : FuncData} (F : L2.FunD K a_coprime_func.name a_coprime_func.qual a_coprime_func.params a_coprime_func.body a_coprime_func.scope [] [] (ga K "coprime_func") fd) : FnOk P w K mg base CX0 8 (ga K "coprime_func") fd ["num", "den"] ((ct_coprime_func K).sp K) := by
  refine ct_ok F sc_coprime_func (fun a => rfl) fun cdv A outer s H E hr => ?_
  refine ⟨_, _, (pdss_cons (pds_set 2 (pd_make (mk_Func T) (hr.mono (by decide)) (pda_cons (pd_tup (pda_cons (pd_kon T.k_ONE) pda_nil)) (pda_cons (pd_tup (pda_cons (pd_kon T.k_ONE) pda_nil)) pda_nil))) sc_coprime_func.nd)
  (pdss_cons (pds_setFld 2 (pd_name 0))
  (pdss_cons (pds_setFld 2 (pd_name 1))
  (pdss_one (pds_ret (pd_name 2)))))), ?_⟩
  rintro _ _
  refine ⟨(), rfl, rfl, trivial, rfl, ?_⟩
  refine ⟨_, _, _, rfl, T.c_Func, T.n_Func_num, by decide, ?_⟩
  exact ⟨_, _, _, rfl, T.c_Func, T.n_Func_den, by decide, rfl⟩
theorem d_coprime_func (T : Tx K mg) : Gd P w K mg base "coprime_func" 8 [] ((ct_coprime_func K).sp K) := by
  obtain ⟨fd, F⟩ := T.d_coprime_func
  exact gd_of T.g_coprime_func F.kp (F.bindsN fun _ _ _ _ _ _ us hl => match us, hl with | [_, _], _ => rfl) (ok_coprime_func T F)
def ct_made_func (K : Fr) : Ct := ⟨Unit, fun _ => [P1, P1], fun _ => True, fun _ => .ow (.obj (ga K "Func") ["num", "den"] [P1, P1])⟩
theorem ok_made_func (T : Tx K mg) {fd : FuncData} (F : L2.FunD K a_made_func.name a_made_func.qual a_made_func.params a_made_func.body a_made_func.scope [] [] (ga K "made_func") fd) : FnOk P w K mg base CX0 8 (ga K "made_func") fd ["num", "den"] ((ct_made_func K).sp K) := by
  refine ct_ok F sc_made_func (fun a => rfl) fun cdv A outer s H E hr => ?_
  refine ⟨_, _, (pdss_cons (pds_set 2 (pd_call (d_check_sides T) (hr.mono (by decide)) (pda_cons (pd_name 0) (pda_cons (pd_cattr T.a_Func_MOST) pda_nil))) sc_made_func.nd)
  (pdss_cons (pds_set 3 (pd_call (d_check_sides T) (hr.mono (by decide)) (pda_cons (pd_name 1) (pda_cons (pd_cattr T.a_Func_MOST) pda_nil))) sc_made_func.nd)
  (pdss_cons (pds_set 4 (pd_call (d_func_form T) (hr.mono (by decide)) (pda_cons (pd_name 2) (pda_cons (pd_name 3) pda_nil))) sc_made_func.nd)
  (pdss_cons (pds_set 5 (pd_make (mk_Func T) (hr.mono (by decide)) (pda_cons (pd_tup (pda_cons (pd_kon T.k_ONE) pda_nil)) (pda_cons (pd_tup (pda_cons (pd_kon T.k_ONE) pda_nil)) pda_nil))) sc_made_func.nd)
  (pdss_cons (pds_setFld 5 (pd_ix ix_seq vo_ix (pd_name 4) pd_int (fun _ _ => rfl)))
  (pdss_cons (pds_setFld 5 (pd_ix ix_seq vo_ix (pd_name 4) pd_int (fun _ _ => rfl)))
  (pdss_one (pds_ret (pd_name 5))))))))), ?_⟩
  rintro _ _
  refine ⟨(), rfl, trivial, ?_⟩
  refine ⟨(), rfl, trivial, ?_⟩
  refine ⟨(), rfl, trivial, ?_⟩
  refine ⟨(), rfl, rfl, trivial, rfl, ?_⟩
  refine ⟨_, _, _, rfl, T.c_Func, T.n_Func_num, by decide, ?_⟩
  exact ⟨_, _, _, rfl, T.c_Func, T.n_Func_den, by decide, rfl⟩
theorem d_made_func (T : Tx K mg) : Gd P w K mg base "made_func" 8 [] ((ct_made_func K).sp K) := by
  obtain ⟨fd, F⟩ := T.d_made_func
  exact gd_of T.g_made_func F.kp (F.bindsN fun _ _ _ _ _ _ us hl => match us, hl with | [_, _], _ => rfl) (ok_made_func T F)
def ct_Func_is_one (K : Fr) : Ct := ⟨Unit, fun _ => [fone K], fun _ => True, fun _ => .fr (.bl true)⟩
theorem ok_Func_is_one (T : Tx K mg) {fd : FuncData} (F : L2.FunD K a_Func_is_one.name a_Func_is_one.qual a_Func_is_one.params a_Func_is_one.body a_Func_is_one.scope [] [] (wf K (ga K "Func") "property" "is_one") fd) : FnOk P w K mg base CX0 1 (wf K (ga K "Func") "property" "is_one") fd ["self"] ((ct_Func_is_one K).sp K) := by
  refine ct_ok F sc_Func_is_one (fun a => rfl) fun cdv A outer s H E hr => ?_
  refine ⟨_, _, (pdss_one (pds_ret (pd_and (pd_cmp (op_eqD hr.units) vo_eq (pd_callB1 call_lenA vo_len T.b_len (pd_fld T.f_Func_num (pd_name 0))) pd_int (nomark _)) (pd_one (pd_cmp (op_eqD hr.units) vo_eq (pd_callB1 call_lenA vo_len T.b_len (pd_fld T.f_Func_den (pd_name 0))) pd_int (nomark _)))))), ?_⟩
  rintro _ _
  exact ⟨⟨rfl, rfl⟩, ⟨rfl, rfl⟩, rfl⟩
theorem p_Func_is_one (T : Tx K mg) : Prd P w K mg base (ga K "Func") "is_one" 1 ((ct_Func_is_one K).sp K) := by
  obtain ⟨fd, F⟩ := T.d_Func_is_one
  exact prd_of T.c_Func T.q_Func_is_one (F.bindsN fun _ _ _ _ _ _ us hl => match us, hl with | [_], _ => rfl) (ok_Func_is_one T F)
def ct_Func_undone (K : Fr) : Ct := ⟨Unit, fun _ => [fone K], fun _ => True, fun _ => .ow (.obj (ga K "Func") ["num", "den"] [P1, P1])⟩
theorem ok_Func_undone (T : Tx K mg) {fd : FuncData} (F : L2.FunD K a_Func_undone.name a_Func_undone.qual a_Func_undone.params a_Func_undone.body a_Func_undone.scope [] [] (ma K (ga K "Func") "undone") fd) : FnOk P w K mg base CX0 9 (ma K (ga K "Func") "undone") fd ["self"] ((ct_Func_undone K).sp K) := by
  refine ct_ok F sc_Func_undone (fun a => rfl) fun cdv A outer s H E hr => ?_
  refine ⟨_, _, (pdss_one (pds_ret (pd_call (d_coprime_func T) (hr.mono (by decide)) (pda_cons (pd_fld T.f_Func_den (pd_name 0)) (pda_cons (pd_fld T.f_Func_num (pd_name 0)) pda_nil))))), ?_⟩
  rintro _ _
  exact ⟨⟨rfl, rfl⟩, ⟨rfl, rfl⟩, (), rfl, trivial, rfl⟩
theorem m_Func_undone (T : Tx K mg) : Md P w K mg base (ga K "Func") "undone" 9 ((ct_Func_undone K).sp K) := by
  obtain ⟨fd, F⟩ := T.d_Func_undone
  exact md_of T.c_Func T.q_Func_undone (F.bindsN fun _ _ _ _ _ _ us hl => match us, hl with | [_], _ => rfl) (ok_Func_undone T F)
def ct_Func___eq__ (K : Fr) : Ct := ⟨Unit, fun _ => [fone K, fone K], fun _ => True, fun _ => .fr (.bl true)⟩
theorem ok_Func___eq__ (T : Tx K mg) {fd : FuncData} (F : L2.FunD K a_Func___eq__.name a_Func___eq__.qual a_Func___eq__.params a_Func___eq__.body a_Func___eq__.scope [] [] (ma K (ga K "Func") "__eq__") fd) : FnOk P w K mg base CX0 1 (ma K (ga K "Func") "__eq__") fd ["self", "other"] ((ct_Func___eq__ K).sp K) := by
  refine ct_ok F sc_Func___eq__ (fun a => rfl) fun cdv A outer s H E hr => ?_
  refine ⟨_, _, (pdss_cons (pds_if (pdt_not (pdt_val (pd_isC T.i_Func T.b_isinstance (pd_name 1)))) (pdss_one (pds_ret pd_bl)) pdss_nil)
  (pdss_one (pds_ret (pd_and (pd_cmp (op_eqD hr.units) vo_eq (pd_fld T.f_Func_num (pd_name 0)) (pd_fld T.f_Func_num (pd_name 1)) (nomark _)) (pd_one (pd_cmp (op_eqD hr.units) vo_eq (pd_fld T.f_Func_den (pd_name 0)) (pd_fld T.f_Func_den (pd_name 1)) (nomark _))))))), ?_⟩
  rintro _ _
  refine ⟨⟨_, _, rfl⟩, ?_⟩
  exact ⟨⟨rfl, rfl⟩, ⟨rfl, rfl⟩, ⟨rfl, rfl⟩, ⟨rfl, rfl⟩, rfl⟩
theorem m_Func___eq__ (T : Tx K mg) : Md P w K mg base (ga K "Func") "__eq__" 1 ((ct_Func___eq__ K).sp K) := by
  obtain ⟨fd, F⟩ := T.d_Func___eq__
  exact md_of T.c_Func T.q_Func___eq__ (F.bindsN fun _ _ _ _ _ _ us hl => match us, hl with | [_, _], _ => rfl) (ok_Func___eq__ T F)
def ct_Func___mul__ (K : Fr) : Ct := ⟨Unit, fun _ => [fone K, fone K], fun _ => True, fun _ => .ow (.obj (ga K "Func") ["num", "den"] [P1, P1])⟩
theorem ok_Func___mul__ (T : Tx K mg) {fd : FuncData} (F : L2.FunD K a_Func___mul__.name a_Func___mul__.qual a_Func___mul__.params a_Func___mul__.body a_Func___mul__.scope [] [] (ma K (ga K "Func") "__mul__") fd) : FnOk P w K mg base CX0 9 (ma K (ga K "Func") "__mul__") fd ["self", "other"] ((ct_Func___mul__ K).sp K) := by
  refine ct_ok F sc_Func___mul__ (fun a => rfl) fun cdv A outer s H E hr => ?_
  refine ⟨_, _, (pdss_cons (pds_if (pdt_not (pdt_val (pd_isC T.i_Func T.b_isinstance (pd_name 1)))) (pdss_one pds_never) pdss_nil)
  (pdss_one (pds_ret (pd_call (d_made_func T) (hr.mono (by decide)) (pda_cons (pd_call (d_poly_times T) (hr.mono (by decide)) (pda_cons (pd_fld T.f_Func_num (pd_name 0)) (pda_cons (pd_fld T.f_Func_num (pd_name 1)) pda_nil))) (pda_cons (pd_call (d_poly_times T) (hr.mono (by decide)) (pda_cons (pd_fld T.f_Func_den (pd_name 0)) (pda_cons (pd_fld T.f_Func_den (pd_name 1)) pda_nil))) pda_nil)))))), ?_⟩
  rintro _ _
  refine ⟨⟨_, _, rfl⟩, ?_⟩
  refine ⟨⟨rfl, rfl⟩, ⟨rfl, rfl⟩, (), rfl, trivial, ?_⟩
  refine ⟨⟨rfl, rfl⟩, ⟨rfl, rfl⟩, (), rfl, trivial, ?_⟩
  exact ⟨(), rfl, trivial, rfl⟩
theorem m_Func___mul__ (T : Tx K mg) : Md P w K mg base (ga K "Func") "__mul__" 9 ((ct_Func___mul__ K).sp K) := by
  obtain ⟨fd, F⟩ := T.d_Func___mul__
  exact md_of T.c_Func T.q_Func___mul__ (F.bindsN fun _ _ _ _ _ _ us hl => match us, hl with | [_, _], _ => rfl) (ok_Func___mul__ T F)
end
end W86
end
section
set_option Elab.async false
set_option linter.all false
set_option maxRecDepth 100000
set_option maxHeartbeats 4000000
set_option exponentiation.threshold 100000
/-! WD: links, rows. -/
namespace W86
open PySem PySem.Spec PyProof.Rows L2 Evl DL
open He (ga ma)
open He5 (wf)
inductive Pt where
  | a | b | c
deriving DecidableEq
def Pt.s : Pt → Str
  | .a => "a" | .b => "b" | .c => "c"
abbrev Lk := Pt × Int
/-- k / S -/
def len (S : Nat) (k : Int) : Rat := mkRat k S
def lkD (K : Fr) (S : Nat) (l : Lk) : D := .obj (ga K "Link") ["part", "length", "func"] [.str l.1.s, num (len S l.2), fone K]
def rowD (K : Fr) (S : Nat) (ls : List Lk) : D := .obj (ga K "Row") ["links"] [.tup (ls.map (lkD K S))]
/-- a size that may be reckoned with -/
def Szk (S : Nat) (k : Int) : Prop := 0 < S ∧ S < 2 ^ 900 ∧ k.natAbs < 2 ^ 900
theorem Szk.sz {S : Nat} {k : Int} (h : Szk S k) : Sz 900 (len S k) := by
  obtain ⟨h0, h1, h2⟩ := h
  unfold len
  refine ⟨?_, ?_⟩
  · rw [Rat.num_mkRat, if_neg (by omega)]
    refine Nat.lt_of_le_of_lt ?_ h2
    exact Int.natAbs_ediv_le_natAbs _ _
  · rw [Rat.den_mkRat, if_neg (by omega)]
    exact Nat.lt_of_le_of_lt (Nat.div_le_self _ _) h1
theorem Szk.ok {S : Nat} {k : Int} (h : Szk S k) : Ok (len S k) := h.sz.mono (by decide)
theorem Szk.two {S : Nat} {k l : Int} (h : Szk S k) (h' : Szk S l) : Two (len S k) (len S l) := ⟨900, 900, h.sz, h'.sz, by decide⟩
theorem len_add {S : Nat} (h : 0 < S) (k l : Int) : len S k + len S l = len S (k + l) := by
  unfold len
  rw [Rat.mkRat_eq_div, Rat.mkRat_eq_div, Rat.mkRat_eq_div, Rat.intCast_add]
  grind
theorem len_neg (S : Nat) (k : Int) : -len S k = len S (-k) := by
  unfold len
  exact Rat.neg_mkRat k S
theorem len_zero (S : Nat) : len S 0 = 0 := by
  unfold len
  exact Rat.zero_mkRat S
theorem len_eq_zero {S : Nat} (h : 0 < S) (k : Int) : len S k = 0 ↔ k = 0 := by
  unfold len
  exact Rat.mkRat_eq_zero (by omega)
theorem len_sign {S : Nat} (h : 0 < S) (k : Int) : (len S k).num.sign = k.sign := by
  have e : (len S k).num * S = k * (len S k).den := by
    unfold len
    have := Rat.mkRat_num_den (n := k) (d := S) (n' := (mkRat k S).num) (d' := (mkRat k S).den) (z' := (mkRat k S).den_nz) (c := (mkRat k S).reduced) (by omega) rfl
    obtain ⟨m, hm, h1, h2⟩ := this
    generalize (mkRat k S).num = n at h1 ⊢
    generalize (mkRat k S).den = d at h2 ⊢
    subst h1 h2
    rw [Int.natCast_mul]
    simp only [Int.mul_assoc, Int.mul_left_comm, Int.mul_comm]
  have hd := (len S k).den_pos
  have h1 : ((len S k).num * S).sign = (len S k).num.sign := by
    rw [Int.sign_mul, Int.sign_eq_one_of_pos (a := (S : Int)) (by omega), Int.mul_one]
  have h2 : (k * (len S k).den).sign = k.sign := by
    rw [Int.sign_mul, Int.sign_eq_one_of_pos (a := ((len S k).den : Int)) (by omega), Int.mul_one]
  rw [← h1, e, h2]
section
variable {P : Program} {w : World} {K : Fr} {mg : Str → Option Value} {base : Heap}
theorem shP (p q : Pt) : (SeqAt.shaped (.str p.s) && SeqAt.shaped (.str q.s)) = true := by
  cases p <;> cases q <;> decide +kernel
theorem eqP (p q : Pt) : PyData.eqv (.str p.s) (.str q.s) = decide (p = q) := by
  cases p <;> cases q <;> decide +kernel
theorem shN (a b c d : Int) : (SeqAt.shaped (.tuple [.int a, .int b]) && SeqAt.shaped (.tuple [.int c, .int d])) = true := rfl
theorem occ (p : Pt) : (Builtin.Str.occurrences ("abc" : Str) p.s 0 ("abc" : Str).length 1).isEmpty = false := by
  cases p <;> decide +kernel
def ct_check_part (K : Fr) : Ct := ⟨Pt, fun p => [.str p.s], fun _ => True, fun p => .fr (.str p.s)⟩
theorem ok_check_part (T : Tx K mg) {fd : FuncData} (F : L2.FunD K a_check_part.name a_check_part.qual a_check_part.params a_check_part.body a_check_part.scope [] [] (ga K "check_part") fd) : FnOk P w K mg base CX0 1 (ga K "check_part") fd ["part"] ((ct_check_part K).sp K) := by
  refine ct_ok F sc_check_part (fun a => rfl) fun cdv A outer s H E hr => ?_
  refine ⟨_, _, (pdss_cons (pds_if (PDW.pdt (pdw_or (pdt_not (pdt_val (pd_isB k_str T.b_isinstance T.b_str (pd_name 0)))) (pdw_or (pdt_cmp (op_neD hr.units) vo_ne (pd_callB1 call_lenA vo_len T.b_len (pd_name 0)) pd_int (nomark _)) (pdw_or1 (pdt_cmp op_notin_str vo_notinS (pd_name 0) (pd_kon T.k_LETTERS) (by rfl)))))) (pdss_one pds_never) pdss_nil)
  (pdss_one (pds_ret (pd_name 0)))), ?_⟩
  intro p _
  have e := occ p
  cases p
  · refine ⟨by decide, ?_⟩
    refine iteF' (fun h => ?_) rfl
    rw [show (Builtin.Str.occurrences ("abc" : Str) Pt.a.s 0 ("abc" : Str).length 1).isEmpty = false from e] at h
    cases h
  · refine ⟨by decide, ?_⟩
    refine iteF' (fun h => ?_) rfl
    rw [show (Builtin.Str.occurrences ("abc" : Str) Pt.b.s 0 ("abc" : Str).length 1).isEmpty = false from e] at h
    cases h
  · refine ⟨by decide, ?_⟩
    refine iteF' (fun h => ?_) rfl
    rw [show (Builtin.Str.occurrences ("abc" : Str) Pt.c.s 0 ("abc" : Str).length 1).isEmpty = false from e] at h
    cases h
theorem d_check_part (T : Tx K mg) : Gd P w K mg base "check_part" 1 [] ((ct_check_part K).sp K) := by
  obtain ⟨fd, F⟩ := T.d_check_part
  exact gd_of T.g_check_part F.kp (F.bindsN fun _ _ _ _ _ _ us hl => match us, hl with | [_], _ => rfl) (ok_check_part T F)
/-- Link(part, length, func): func the function 1, or None -/
def cw_Link___init__ (K : Fr) : Cw := ⟨Pt × Rat × Bool, fun _ => .obj (ga K "Link") [] [], fun a => [.str a.1.s, num a.2.1, if a.2.2 then fone K else .non], fun a => Ok a.2.1, fun _ => .fr .non, fun a => .obj (ga K "Link") ["part", "length", "func"] [.str a.1.s, num a.2.1, fone K]⟩
theorem ok_Link___init__ (T : Tx K mg) {fd : FuncData} (F : L2.FunD K a_Link___init__.name a_Link___init__.qual a_Link___init__.params a_Link___init__.body a_Link___init__.scope [.non] [] (ma K (ga K "Link") "__init__") fd) : FnOk P w K mg base CX0 9 (ma K (ga K "Link") "__init__") fd ["self", "part", "length", "func"] ((cw_Link___init__ K).sp K) := by
  refine cw_ok F sc_Link___init__ (fun a => rfl) fun cdv A outer s H E hr => ?_
  refine ⟨_, _, (pdss_cons (pds_setFld 0 (pd_call (d_check_part T) (hr.mono (by decide)) (pda_cons (pd_name 1) pda_nil)))
  (pdss_cons (pds_setFld 0 (pd_call (d_check_number T) (hr.mono (by decide)) (pda_cons (pd_name 2) pda_nil)))
  (pdss_cons (pds_if (PDW.pdt (pdw_and (pdt_cmp op_notN vo_notN (pd_name 3) pd_non (nomark _)) (pdw_and1 (pdt_not (pdt_val (pd_isC T.i_Func T.b_isinstance (pd_name 3))))))) (pdss_one pds_never) pdss_nil)
  (pdss_one (pds_setFld 0 (pd_ifExp (pdt_cmp op_isN vo_isN (pd_name 3) pd_non (nomark _)) (pd_sm0 (sm_Func_one T) (hr.mono (by decide))) (pd_name 3))))))), ?_⟩
  rintro ⟨p, x, b⟩ hx
  refine ⟨p, rfl, trivial, ?_⟩
  refine ⟨_, _, _, rfl, T.c_Link, T.n_Link_part, show (0 : Nat) < 1000 from by decide, ?_⟩
  refine ⟨x, rfl, hx, ?_⟩
  refine ⟨_, _, _, rfl, T.c_Link, T.n_Link_length, show (1 : Nat) < 1000 from by decide, ?_⟩
  cases b with
  | true =>
    refine ⟨⟨_, _, rfl⟩, ?_⟩
    exact ⟨_, _, _, rfl, T.c_Link, T.n_Link_func, show (2 : Nat) < 1000 from by decide, rfl, rfl⟩
  | false =>
    refine ⟨(), rfl, trivial, ?_⟩
    exact ⟨_, _, _, rfl, T.c_Link, T.n_Link_func, show (2 : Nat) < 1000 from by decide, rfl, rfl⟩
theorem mk_Link3 (T : Tx K mg) : Mkd P w K mg base "Link" (ga K "Link") 9 [] ((cw_Link___init__ K).sp K) := by
  obtain ⟨fd, F⟩ := T.d_Link___init__
  obtain ⟨ds, v, b⟩ := L2.FunD.binds1 (ps := ["self", "part", "length", "func"]) F 4 1 (List.cons_ne_nil L2.V.non []) rfl fun T kV doc pm an cdv ct us its hu hi => match us, its, hu, hi with | [_, _, _, _], [_], _, _ => ⟨_, rfl, rfl⟩
  cases v
  exact ⟨[], _, fd, _, [], T.g_Link, T.mk_Link, b, .nil, fun _ => repL_nil.mpr rfl, ok_Link___init__ T F⟩
theorem mk_Link2 (T : Tx K mg) : Mkd P w K mg base "Link" (ga K "Link") 9 [.non] ((cw_Link___init__ K).sp K) := by
  obtain ⟨fd, F⟩ := T.d_Link___init__
  obtain ⟨ds, v, b⟩ := L2.FunD.binds1 (ps := ["self", "part", "length", "func"]) F 3 0 (List.cons_ne_nil L2.V.non []) rfl fun T kV doc pm an cdv ct us its hu hi => match us, its, hu, hi with | [_, _, _], [_], _, _ => ⟨_, rfl, rfl⟩
  exact ⟨[.non], _, fd, _, ds, T.g_Link, T.mk_Link, b, v, fun _ => RepL.cons (rep_non.mpr rfl) (repL_nil.mpr rfl), ok_Link___init__ T F⟩
def ct_made_link (K : Fr) : Ct := ⟨Pt × Rat, fun a => [.str a.1.s, num a.2, fone K], fun _ => True, fun a => .ow (.obj (ga K "Link") ["part", "length", "func"] [.str a.1.s, num a.2, fone K])⟩
theorem ok_made_link (T : Tx K mg) {fd : FuncData} (F : L2.FunD K a_made_link.name a_made_link.qual a_made_link.params a_made_link.body a_made_link.scope [] [] (ga K "made_link") fd) : FnOk P w K mg base CX0 11 (ga K "made_link") fd ["part", "length", "func"] ((ct_made_link K).sp K) := by
  refine ct_ok F sc_made_link (fun a => rfl) fun cdv A outer s H E hr => ?_
  refine ⟨_, _, (pdss_cons (pds_set 3 (pd_make (mk_Link3 T) (hr.mono (by decide)) (pda_cons (pd_name 0) (pda_cons (pd_kon T.k_ZERO) (pda_cons (pd_name 2) pda_nil)))) sc_made_link.nd)
  (pdss_cons (pds_setFld 3 (pd_name 1))
  (pdss_one (pds_ret (pd_name 3))))), ?_⟩
  rintro ⟨p, x⟩ _
  refine ⟨(p, (0 : Rat), true), rfl, rfl, sz0, rfl, ?_⟩
  exact ⟨_, _, _, rfl, T.c_Link, T.n_Link_length, show (3 : Nat) < 1000 from by decide, rfl⟩
theorem d_made_link (T : Tx K mg) : Gd P w K mg base "made_link" 11 [] ((ct_made_link K).sp K) := by
  obtain ⟨fd, F⟩ := T.d_made_link
  exact gd_of T.g_made_link F.kp (F.bindsN fun _ _ _ _ _ _ us hl => match us, hl with | [_, _, _], _ => rfl) (ok_made_link T F)
abbrev lkO (K : Fr) (S : Nat) (l : Lk) : Ow := .obj (ga K "Link") ["part", "length", "func"] [.str l.1.s, num (len S l.2), fone K]
def inv (l : Lk) : Lk := (l.1, -l.2)
def ct_Link_undone_link (K : Fr) : Ct := ⟨Nat × Lk, fun a => [lkD K a.1 a.2], fun _ => True, fun a => .ow (lkO K a.1 (inv a.2))⟩
theorem ok_Link_undone_link (T : Tx K mg) {fd : FuncData} (F : L2.FunD K a_Link_undone_link.name a_Link_undone_link.qual a_Link_undone_link.params a_Link_undone_link.body a_Link_undone_link.scope [] [] (ma K (ga K "Link") "undone_link") fd) : FnOk P w K mg base CX0 12 (ma K (ga K "Link") "undone_link") fd ["self"] ((ct_Link_undone_link K).sp K) := by
  refine ct_ok F sc_Link_undone_link (fun a => rfl) fun cdv A outer s H E hr => ?_
  refine ⟨_, _, (pdss_one (pds_ret (pd_call (d_made_link T) (hr.mono (by decide)) (pda_cons (pd_fld T.f_Link_part (pd_name 0)) (pda_cons (pd_call (d_opposite T) (hr.mono (by decide)) (pda_cons (pd_fld T.f_Link_length (pd_name 0)) pda_nil)) (pda_cons (pd_meth0 (m_Func_undone T) (hr.mono (by decide)) (pd_fld T.f_Link_func (pd_name 0))) pda_nil)))))), ?_⟩
  rintro ⟨S, l⟩ _
  refine ⟨⟨rfl, rfl⟩, ⟨rfl, rfl⟩, len S l.2, rfl, trivial, ⟨rfl, rfl⟩, ⟨_, _, rfl, rfl⟩, (), rfl, trivial, ?_⟩
  refine ⟨(l.1, -len S l.2), rfl, trivial, ?_⟩
  show Res.ow (lkO K S (inv l)) = _
  unfold lkO inv
  rw [← len_neg]
  rfl
theorem m_Link_undone_link (T : Tx K mg) : Md P w K mg base (ga K "Link") "undone_link" 12 ((ct_Link_undone_link K).sp K) := by
  obtain ⟨fd, F⟩ := T.d_Link_undone_link
  exact md_of T.c_Link T.q_Link_undone_link (F.bindsN fun _ _ _ _ _ _ us hl => match us, hl with | [_], _ => rfl) (ok_Link_undone_link T F)
def ct_joined_links (K : Fr) : Ct := ⟨Nat × Pt × Int × Int, fun a => [lkD K a.1 (a.2.1, a.2.2.1), lkD K a.1 (a.2.1, a.2.2.2)], fun a => Szk a.1 a.2.2.1 ∧ Szk a.1 a.2.2.2, fun a => .ow (lkO K a.1 (a.2.1, a.2.2.1 + a.2.2.2))⟩
theorem ok_joined_links (T : Tx K mg) {fd : FuncData} (F : L2.FunD K a_joined_links.name a_joined_links.qual a_joined_links.params a_joined_links.body a_joined_links.scope [] [] (ga K "joined_links") fd) : FnOk P w K mg base CX0 12 (ga K "joined_links") fd ["k", "q"] ((ct_joined_links K).sp K) := by
  refine ct_ok F sc_joined_links (fun a => rfl) fun cdv A outer s H E hr => ?_
  refine ⟨_, _, (pdss_cons (pds_if (pdt_cmp (op_neD hr.units) vo_ne (pd_fld T.f_Link_part (pd_name 0)) (pd_fld T.f_Link_part (pd_name 1)) (nomark _)) (pdss_one pds_never) pdss_nil)
  (pdss_one (pds_ret (pd_call (d_made_link T) (hr.mono (by decide)) (pda_cons (pd_fld T.f_Link_part (pd_name 0)) (pda_cons (pd_call (d_plus T) (hr.mono (by decide)) (pda_cons (pd_fld T.f_Link_length (pd_name 0)) (pda_cons (pd_fld T.f_Link_length (pd_name 1)) pda_nil))) (pda_cons (pd_own (m_Func___mul__ T) (hr.mono (by decide)) (T.o_Func).sf (pd_fld T.f_Link_func (pd_name 0)) (pd_fld T.f_Link_func (pd_name 1))) pda_nil))))))), ?_⟩
  rintro ⟨S, p, k, l⟩ ⟨h1, h2⟩
  have h1 : Szk S k := h1
  have h2 : Szk S l := h2
  refine ⟨⟨rfl, rfl⟩, ⟨rfl, rfl⟩, ?_⟩
  refine obB_iff.mpr ⟨shP p p, ?_⟩
  refine iteF' (fun h => ?_) ?_
  · have h : (!(PyData.eqv (.str p.s) (.str p.s))) = true := h
    rw [eqP] at h
    simp at h
  · refine ⟨⟨rfl, rfl⟩, ⟨rfl, rfl⟩, ⟨rfl, rfl⟩, (len S k, len S l), rfl, h1.two h2, ?_⟩
    refine ⟨⟨rfl, rfl⟩, ⟨rfl, rfl⟩, ⟨⟨_, _, rfl⟩, ⟨_, _, rfl⟩⟩, (), rfl, trivial, trivial, ?_⟩
    refine ⟨(p, len S k + len S l), rfl, trivial, ?_⟩
    show Res.ow (lkO K S (p, k + l)) = _
    unfold lkO
    rw [← len_add h1.1]
    rfl
theorem d_joined_links (T : Tx K mg) : Gd P w K mg base "joined_links" 12 [] ((ct_joined_links K).sp K) := by
  obtain ⟨fd, F⟩ := T.d_joined_links
  exact gd_of T.g_joined_links F.kp (F.bindsN fun _ _ _ _ _ _ us hl => match us, hl with | [_, _], _ => rfl) (ok_joined_links T F)
def ct_Link_is_true (K : Fr) : Ct := ⟨Nat × Lk, fun a => [lkD K a.1 a.2], fun _ => True, fun a => .fr (.bl true)⟩
theorem ok_Link_is_true (T : Tx K mg) {fd : FuncData} (F : L2.FunD K a_Link_is_true.name a_Link_is_true.qual a_Link_is_true.params a_Link_is_true.body a_Link_is_true.scope [] [] (wf K (ga K "Link") "property" "is_true") fd) : FnOk P w K mg base CX0 3 (wf K (ga K "Link") "property" "is_true") fd ["self"] ((ct_Link_is_true K).sp K) := by
  refine ct_ok F sc_Link_is_true (fun a => rfl) fun cdv A outer s H E hr => ?_
  refine ⟨_, _, (pdss_one (pds_ret (pd_prop (p_Func_is_one T) (hr.mono (by decide)) (pd_fld T.f_Link_func (pd_name 0))))), ?_⟩
  rintro ⟨S, l⟩ _
  exact ⟨⟨rfl, rfl⟩, ⟨_, _, rfl⟩, (), rfl, trivial, rfl⟩
theorem p_Link_is_true (T : Tx K mg) : Prd P w K mg base (ga K "Link") "is_true" 3 ((ct_Link_is_true K).sp K) := by
  obtain ⟨fd, F⟩ := T.d_Link_is_true
  exact prd_of T.c_Link T.q_Link_is_true (F.bindsN fun _ _ _ _ _ _ us hl => match us, hl with | [_], _ => rfl) (ok_Link_is_true T F)
theorem eq_num {x y : Rat} : PyData.eqv (.tuple [.int x.num, .int x.den]) (.tuple [.int y.num, .int y.den]) = decide (x = y) := by
  have e : PyData.eqv (.tuple [.int x.num, .int x.den]) (.tuple [.int y.num, .int y.den]) = (PyData.eqv (.int x.num) (.int y.num) && (PyData.eqv (.int x.den) (.int y.den) && true)) := by
    simp only [PyData.eqv, PyData.eqvAll]
  rw [e, eqI, eqI, Bool.and_true]
  by_cases h : x = y
  · subst h
    simp
  · rw [decide_eq_false h]
    by_cases h1 : x.num = y.num
    · have h2 : ¬ ((x.den : Int) = y.den) := fun z => h (Rat.ext h1 (by omega))
      rw [decide_eq_false h2, Bool.and_false]
    · rw [decide_eq_false h1, Bool.false_and]
def ct_Link_does_nothing (K : Fr) : Ct := ⟨Nat × Lk, fun a => [lkD K a.1 a.2], fun a => 0 < a.1, fun a => .fr (.bl (decide (a.2.2 = 0)))⟩
theorem ok_Link_does_nothing (T : Tx K mg) {fd : FuncData} (F : L2.FunD K a_Link_does_nothing.name a_Link_does_nothing.qual a_Link_does_nothing.params a_Link_does_nothing.body a_Link_does_nothing.scope [] [] (wf K (ga K "Link") "property" "does_nothing") fd) : FnOk P w K mg base CX0 3 (wf K (ga K "Link") "property" "does_nothing") fd ["self"] ((ct_Link_does_nothing K).sp K) := by
  refine ct_ok F sc_Link_does_nothing (fun a => rfl) fun cdv A outer s H E hr => ?_
  refine ⟨_, _, (pdss_one (pds_ret (pd_and (pd_cmp (op_eqD hr.units) vo_eq (pd_fld T.f_Link_length (pd_name 0)) (pd_kon T.k_ZERO) (nomark _)) (pd_one (pd_prop (p_Func_is_one T) (hr.mono (by decide)) (pd_fld T.f_Link_func (pd_name 0))))))), ?_⟩
  rintro ⟨S, l⟩ h
  have h : 0 < S := h
  have e : PyData.eqv (.tuple [.int (len S l.2).num, .int (len S l.2).den]) (.tuple [.int 0, .int 1]) = decide (l.2 = 0) := by
    have := eq_num (x := len S l.2) (y := 0)
    rw [show (.tuple [.int 0, .int 1] : PyData) = .tuple [.int (0 : Rat).num, .int (0 : Rat).den] from rfl, this]
    exact decide_eq_decide.mpr (len_eq_zero h _)
  refine ⟨⟨rfl, rfl⟩, ?_⟩
  refine ite2 (fun h' => ?_) (fun h' => ?_)
  · rw [e] at h'
    refine ⟨⟨rfl, rfl⟩, ⟨_, _, rfl⟩, (), rfl, trivial, ?_⟩
    exact congrArg (fun b => Res.fr (.bl b)) h'
  · rw [e] at h'
    exact congrArg (fun b => Res.fr (.bl b)) (Bool.not_eq_true _ ▸ h')
theorem p_Link_does_nothing (T : Tx K mg) : Prd P w K mg base (ga K "Link") "does_nothing" 3 ((ct_Link_does_nothing K).sp K) := by
  obtain ⟨fd, F⟩ := T.d_Link_does_nothing
  exact prd_of T.c_Link T.q_Link_does_nothing (F.bindsN fun _ _ _ _ _ _ us hl => match us, hl with | [_], _ => rfl) (ok_Link_does_nothing T F)
def ct_check_links (K : Fr) : Ct := ⟨Bool × Nat × List Lk, fun a => [if a.1 then .tup (a.2.2.map (lkD K a.2.1)) else .lst (a.2.2.map (lkD K a.2.1))], fun a => a.2.2.length ≤ 600, fun a => .fr (.tup (a.2.2.map (lkD K a.2.1)))⟩
theorem ok_check_links (T : Tx K mg) {fd : FuncData} (F : L2.FunD K a_check_links.name a_check_links.qual a_check_links.params a_check_links.body a_check_links.scope [] [] (ga K "check_links") fd) : FnOk P w K mg base CX0 1 (ga K "check_links") fd ["thing"] ((ct_check_links K).sp K) := by
  refine ct_ok F sc_check_links (fun a => rfl) fun cdv A outer s H E hr => ?_
  refine ⟨_, _, (pdss_cons (pds_if (pdt_not (pdt_val (pd_isTL T.b_isinstance T.b_tuple T.b_list (pd_name 0)))) (pdss_one pds_never) pdss_nil)
  (pdss_cons (pds_for PassesOwn.never rfl (pdi_seq (pd_name 0)) (pdg_name 1 sc_check_links.nd)
  (pdss_one (pds_if (pdt_not (pdt_val (pd_isC T.i_Link T.b_isinstance (pd_name 1)))) (pdss_one pds_never) pdss_nil)))
  (pdss_cons (pds_if (pdt_cmp op_gt vo_cmp (pd_callB1 call_lenA vo_len T.b_len (pd_name 0)) (pd_kon T.k_LINK_BOUND) (nomark _)) (pdss_one pds_never) pdss_nil)
  (pdss_one (pds_ret (pd_callTy1 call_tuple_of vo_tupOf T.b_tuple (pd_name 0))))))), ?_⟩
  rintro ⟨b, S, ls⟩ h
  have h : ls.length ≤ 600 := h
  cases b with
  | true =>
    refine forD_ind (f := lkD K S) (fun _ ρ => ∃ s1, ρ = [.fr (.tup (ls.map (lkD K S))), s1]) ⟨_, rfl⟩ ?_ ?_
    · rintro x r ρ ⟨s1, rfl⟩ nx hn
      exact ⟨⟨_, _, rfl⟩, hn _ ⟨_, rfl⟩⟩
    · rintro ρ ⟨s1, rfl⟩
      refine iteF' (fun h' => ?_) rfl
      have h' : decide ((600 : Int) < ((ls.map (lkD K S)).length : Nat)) = true := h'
      rw [List.length_map] at h'
      have := of_decide_eq_true h'
      omega
  | false =>
    refine forD_ind (f := lkD K S) (fun _ ρ => ∃ s1, ρ = [.fr (.lst (ls.map (lkD K S))), s1]) ⟨_, rfl⟩ ?_ ?_
    · rintro x r ρ ⟨s1, rfl⟩ nx hn
      exact ⟨⟨_, _, rfl⟩, hn _ ⟨_, rfl⟩⟩
    · rintro ρ ⟨s1, rfl⟩
      refine iteF' (fun h' => ?_) rfl
      have h' : decide ((600 : Int) < ((ls.map (lkD K S)).length : Nat)) = true := h'
      rw [List.length_map] at h'
      have := of_decide_eq_true h'
      omega
theorem d_check_links (T : Tx K mg) : Gd P w K mg base "check_links" 1 [] ((ct_check_links K).sp K) := by
  obtain ⟨fd, F⟩ := T.d_check_links
  exact gd_of T.g_check_links F.kp (F.bindsN fun _ _ _ _ _ _ us hl => match us, hl with | [_], _ => rfl) (ok_check_links T F)
abbrev rowO (K : Fr) (S : Nat) (ls : List Lk) : Ow := .obj (ga K "Row") ["links"] [.tup (ls.map (lkD K S))]
def cw_Row___init__ (K : Fr) : Cw := ⟨Bool × Nat × List Lk, fun _ => .obj (ga K "Row") [] [], fun a => [if a.1 then .tup (a.2.2.map (lkD K a.2.1)) else .lst (a.2.2.map (lkD K a.2.1))], fun a => a.2.2.length ≤ 600, fun _ => .fr .non, fun a => rowO K a.2.1 a.2.2⟩
theorem ok_Row___init__ (T : Tx K mg) {fd : FuncData} (F : L2.FunD K a_Row___init__.name a_Row___init__.qual a_Row___init__.params a_Row___init__.body a_Row___init__.scope [] [] (ma K (ga K "Row") "__init__") fd) : FnOk P w K mg base CX0 2 (ma K (ga K "Row") "__init__") fd ["self", "links"] ((cw_Row___init__ K).sp K) := by
  refine cw_ok F sc_Row___init__ (fun a => rfl) fun cdv A outer s H E hr => ?_
  refine ⟨_, _, (pdss_one (pds_setFld 0 (pd_call (d_check_links T) (hr.mono (by decide)) (pda_cons (pd_name 1) pda_nil)))), ?_⟩
  rintro ⟨b, S, ls⟩ h
  refine ⟨(b, S, ls), rfl, h, ?_⟩
  exact ⟨_, _, _, rfl, T.c_Row, T.n_Row_links, show (0 : Nat) < 1000 from by decide, rfl, rfl⟩
theorem mk_Row (T : Tx K mg) : Mkd P w K mg base "Row" (ga K "Row") 2 [] ((cw_Row___init__ K).sp K) := by
  obtain ⟨fd, F⟩ := T.d_Row___init__
  exact mkd_of T.g_Row T.mk_Row (F.bindsN fun _ _ _ _ _ _ us hl => match us, hl with | [_, _], _ => rfl) (ok_Row___init__ T F)
/-- a row as an argument: S, its links -/
abbrev RA := Nat × List Lk
theorem all_true_bools (n : Nat) : bools (List.replicate n (D.bl true)) = some (List.replicate n true) := by
  induction n with
  | zero => rfl
  | succ n ih =>
    rw [List.replicate_succ, List.replicate_succ]
    show (bools (List.replicate n (D.bl true))).map (true :: ·) = _
    rw [ih]
    rfl
def ct_Row_is_true (K : Fr) : Ct := ⟨RA, fun a => [rowD K a.1 a.2], fun a => a.2.length ≤ 600, fun a => .fr (.bl true)⟩
theorem ok_Row_is_true (T : Tx K mg) {fd : FuncData} (F : L2.FunD K a_Row_is_true.name a_Row_is_true.qual a_Row_is_true.params a_Row_is_true.body a_Row_is_true.scope [] [] (wf K (ga K "Row") "property" "is_true") fd) : FnOk P w K mg base CX0 3 (wf K (ga K "Row") "property" "is_true") fd ["self"] ((ct_Row_is_true K).sp K) := by
  refine ct_ok F sc_Row_is_true (fun a => rfl) fun cdv A outer s H E hr => ?_
  refine ⟨_, _, (pdss_one (pds_ret (pd_callB1 (cr_all rfl) vo_all T.b_all (pd_lc [("k", 1)] 1 rfl sc_Row_is_true.nd (pdi_seq (pd_fld T.f_Row_links (pd_name 0))) (fun _ _ _ _ _ => pdts_nil) (fun _ _ _ _ _ => (pd_prop (p_Func_is_one T) (hr.mono (by decide)) (pd_fld T.f_Link_func (pd_name 1)))) (fun _ _ _ _ _ => pg_name (i := 1) sc_Row_is_true.nd rfl (Or.inl rfl)) (show blkC NN_Row_is_true (defScope s_Row_is_true) _ [("k", 1)] = true by decide +kernel))))), ?_⟩
  rintro ⟨S, ls⟩ h
  have h : ls.length ≤ 600 := h
  refine ⟨⟨rfl, rfl⟩, ?_⟩
  refine lcD_map (f := lkD K S) (fun _ => .bl true) [.fr (rowD K S ls), .un] rfl (show ls.length ≤ 100000 by omega) ?_ ?_
  · intro x acc _ hl nx hn
    exact ⟨⟨rfl, rfl⟩, ⟨_, _, rfl⟩, (), rfl, trivial, hl, hn⟩
  · refine ob_iff.mpr ⟨_, rfl, ?_⟩
    refine ob_iff.mpr ⟨List.replicate ls.length true, ?_, ?_⟩
    · rw [List.map_const']
      exact all_true_bools _
    · show Res.fr (.bl true) = Res.fr (.bl ((List.replicate ls.length true).all id))
      rw [List.all_replicate]
      simp
theorem p_Row_is_true (T : Tx K mg) : Prd P w K mg base (ga K "Row") "is_true" 3 ((ct_Row_is_true K).sp K) := by
  obtain ⟨fd, F⟩ := T.d_Row_is_true
  exact prd_of T.c_Row T.q_Row_is_true (F.bindsN fun _ _ _ _ _ _ us hl => match us, hl with | [_], _ => rfl) (ok_Row_is_true T F)
def ct_Row_undone (K : Fr) : Ct := ⟨RA, fun a => [rowD K a.1 a.2], fun a => a.2.length ≤ 600, fun a => .ow (rowO K a.1 (a.2.reverse.map inv))⟩
theorem ok_Row_undone (T : Tx K mg) {fd : FuncData} (F : L2.FunD K a_Row_undone.name a_Row_undone.qual a_Row_undone.params a_Row_undone.body a_Row_undone.scope [] [] (ma K (ga K "Row") "undone") fd) : FnOk P w K mg base CX0 13 (ma K (ga K "Row") "undone") fd ["self"] ((ct_Row_undone K).sp K) := by
  refine ct_ok F sc_Row_undone (fun a => rfl) fun cdv A outer s H E hr => ?_
  refine ⟨_, _, (pdss_one (pds_ret (pd_make (mk_Row T) (hr.mono (by decide)) (pda_cons (pd_lc [("k", 1)] 1 rfl sc_Row_undone.nd (pdi_seq (pd_revT (pd_fld T.f_Row_links (pd_name 0)))) (fun _ _ _ _ _ => pdts_nil) (fun _ _ _ _ _ => (pd_meth0 (m_Link_undone_link T) (hr.mono (by decide)) (pd_name 1))) (fun _ _ _ _ _ => pg_name (i := 1) sc_Row_undone.nd rfl (Or.inl rfl)) (show blkC NN_Row_undone (defScope s_Row_undone) _ [("k", 1)] = true by decide +kernel)) pda_nil)))), ?_⟩
  rintro ⟨S, ls⟩ h
  have h : ls.length ≤ 600 := h
  refine ⟨⟨rfl, rfl⟩, ?_⟩
  have e : (ls.map (lkD K S)).reverse = ls.reverse.map (lkD K S) := List.map_reverse.symm
  show lcD _ _ _ _ _ (ls.map (lkD K S)).reverse [] _ _
  rw [e]
  refine lcD_map (f := lkD K S) (fun l => lkD K S (inv l)) [.fr (rowD K S ls), .un] rfl (show ls.reverse.length ≤ 100000 by rw [List.length_reverse]; omega) ?_ ?_
  · intro x acc _ hl nx hn
    refine ⟨⟨_, _, rfl, rfl⟩, (S, x), rfl, trivial, hl, ?_⟩
    exact hn
  · refine ⟨(false, S, ls.reverse.map inv), rfl, ?_, ?_, rfl, rfl⟩
    · show [D.lst (ls.reverse.map fun l => lkD K S (inv l))] = [.lst ((ls.reverse.map inv).map (lkD K S))]
      rw [List.map_map]
      rfl
    · show (ls.reverse.map inv).length ≤ 600
      rw [List.length_map, List.length_reverse]
      exact h
theorem m_Row_undone (T : Tx K mg) : Md P w K mg base (ga K "Row") "undone" 13 ((ct_Row_undone K).sp K) := by
  obtain ⟨fd, F⟩ := T.d_Row_undone
  exact md_of T.c_Row T.q_Row_undone (F.bindsN fun _ _ _ _ _ _ us hl => match us, hl with | [_], _ => rfl) (ok_Row_undone T F)
def ct_Row___add__ (K : Fr) : Ct := ⟨Nat × List Lk × List Lk, fun a => [rowD K a.1 a.2.1, rowD K a.1 a.2.2], fun a => a.2.1.length + a.2.2.length ≤ 600, fun a => .ow (rowO K a.1 (a.2.1 ++ a.2.2))⟩
theorem ok_Row___add__ (T : Tx K mg) {fd : FuncData} (F : L2.FunD K a_Row___add__.name a_Row___add__.qual a_Row___add__.params a_Row___add__.body a_Row___add__.scope [] [] (ma K (ga K "Row") "__add__") fd) : FnOk P w K mg base CX0 4 (ma K (ga K "Row") "__add__") fd ["self", "other"] ((ct_Row___add__ K).sp K) := by
  refine ct_ok F sc_Row___add__ (fun a => rfl) fun cdv A outer s H E hr => ?_
  refine ⟨_, _, (pdss_cons (pds_if (pdt_not (pdt_val (pd_isC T.i_Row T.b_isinstance (pd_name 1)))) (pdss_one pds_never) pdss_nil)
  (pdss_one (pds_ret (pd_make (mk_Row T) (hr.mono (by decide)) (pda_cons (pd_op op_addA vo_add (pd_fld T.f_Row_links (pd_name 0)) (pd_fld T.f_Row_links (pd_name 1))) pda_nil))))), ?_⟩
  rintro ⟨S, ls, ms⟩ h
  have h : ls.length + ms.length ≤ 600 := h
  refine ⟨⟨_, _, rfl⟩, ⟨rfl, rfl⟩, ⟨rfl, rfl⟩, ?_⟩
  refine ⟨show (ls.map (lkD K S)).length + (ms.map (lkD K S)).length ≤ 100000 by rw [List.length_map, List.length_map]; omega, ?_⟩
  refine ⟨(true, S, ls ++ ms), rfl, ?_, ?_, rfl, rfl⟩
  · show [D.tup (ls.map (lkD K S) ++ ms.map (lkD K S))] = [.tup ((ls ++ ms).map (lkD K S))]
    rw [List.map_append]
  · show (ls ++ ms).length ≤ 600
    rw [List.length_append]
    exact h
theorem m_Row___add__ (T : Tx K mg) : Md P w K mg base (ga K "Row") "__add__" 4 ((ct_Row___add__ K).sp K) := by
  obtain ⟨fd, F⟩ := T.d_Row___add__
  exact md_of T.c_Row T.q_Row___add__ (F.bindsN fun _ _ _ _ _ _ us hl => match us, hl with | [_, _], _ => rfl) (ok_Row___add__ T F)
def ct_all_true (K : Fr) : Ct := ⟨RA, fun a => [rowD K a.1 a.2], fun a => a.2.length ≤ 600, fun a => .fr (rowD K a.1 a.2)⟩
theorem ok_all_true (T : Tx K mg) {fd : FuncData} (F : L2.FunD K a_all_true.name a_all_true.qual a_all_true.params a_all_true.body a_all_true.scope [] [] (ga K "all_true") fd) : FnOk P w K mg base CX0 5 (ga K "all_true") fd ["row"] ((ct_all_true K).sp K) := by
  refine ct_ok F sc_all_true (fun a => rfl) fun cdv A outer s H E hr => ?_
  refine ⟨_, _, (pdss_cons (pds_if (pdt_not (pdt_val (pd_prop (p_Row_is_true T) (hr.mono (by decide)) (pd_name 0)))) (pdss_one pds_never) pdss_nil)
  (pdss_one (pds_ret (pd_name 0)))), ?_⟩
  rintro ⟨S, ls⟩ h
  exact ⟨⟨_, _, rfl⟩, (S, ls), rfl, h, rfl⟩
theorem d_all_true (T : Tx K mg) : Gd P w K mg base "all_true" 5 [] ((ct_all_true K).sp K) := by
  obtain ⟨fd, F⟩ := T.d_all_true
  exact gd_of T.g_all_true F.kp (F.bindsN fun _ _ _ _ _ _ us hl => match us, hl with | [_], _ => rfl) (ok_all_true T F)
def ct_wrapped (K : Fr) : Ct := ⟨Nat × List Lk × List Lk, fun a => [rowD K a.1 a.2.1, rowD K a.1 a.2.2], fun a => a.2.1.length + a.2.2.length + a.2.1.length ≤ 600, fun a => .ow (rowO K a.1 (a.2.1 ++ a.2.2 ++ a.2.1.reverse.map inv))⟩
theorem ok_wrapped (T : Tx K mg) {fd : FuncData} (F : L2.FunD K a_wrapped.name a_wrapped.qual a_wrapped.params a_wrapped.body a_wrapped.scope [] [] (ga K "wrapped") fd) : FnOk P w K mg base CX0 14 (ga K "wrapped") fd ["u", "R"] ((ct_wrapped K).sp K) := by
  refine ct_ok F sc_wrapped (fun a => rfl) fun cdv A outer s H E hr => ?_
  refine ⟨_, _, (pdss_one (pds_ret (pd_own (m_Row___add__ T) (hr.mono (by decide)) (T.o_Row).sf (pd_own (m_Row___add__ T) (hr.mono (by decide)) (T.o_Row).sf (pd_name 0) (pd_name 1)) (pd_meth0 (m_Row_undone T) (hr.mono (by decide)) (pd_name 0))))), ?_⟩
  rintro ⟨S, ls, ms⟩ h
  have h : ls.length + ms.length + ls.length ≤ 600 := h
  refine ⟨⟨⟨_, _, rfl⟩, ⟨_, _, rfl⟩⟩, (S, ls, ms), rfl, show ls.length + ms.length ≤ 600 by omega, trivial, ?_⟩
  refine ⟨⟨_, _, rfl, rfl⟩, (S, ls), rfl, show ls.length ≤ 600 by omega, ?_⟩
  refine ⟨⟨⟨_, _, rfl⟩, ⟨_, _, rfl⟩⟩, (S, ls ++ ms, ls.reverse.map inv), rfl, ?_, trivial, rfl⟩
  show (ls ++ ms).length + (ls.reverse.map inv).length ≤ 600
  rw [List.length_append, List.length_map, List.length_reverse]
  exact h
theorem d_wrapped (T : Tx K mg) : Gd P w K mg base "wrapped" 14 [] ((ct_wrapped K).sp K) := by
  obtain ⟨fd, F⟩ := T.d_wrapped
  exact gd_of T.g_wrapped F.kp (F.bindsN fun _ _ _ _ _ _ us hl => match us, hl with | [_, _], _ => rfl) (ok_wrapped T F)
/-! ### reduced, rounded -/
/-- the last link of a list and what is ahead of it -/
def push (h : List Lk) (k : Lk) : List Lk := match h.getLast? with
  | some l => if l.1 = k.1 then (if l.2 + k.2 = 0 then h.dropLast else h.dropLast ++ [(k.1, l.2 + k.2)]) else if k.2 = 0 then h else h ++ [k]
  | none => if k.2 = 0 then h else h ++ [k]
def red (ls : List Lk) : List Lk := ls.foldl push []
/-- the sizes of a row, all together -/
def wt (ls : List Lk) : Nat := (ls.map fun l => l.2.natAbs).sum
/-- a row that may be reckoned with -/
def Fit (S : Nat) (ls : List Lk) : Prop := 0 < S ∧ S < 2 ^ 900 ∧ wt ls < 2 ^ 900 ∧ ls.length ≤ 600
theorem atI_last {α : Type} (xs : List α) (y : α) : atI (xs ++ [y]) (-1) = some y := by
  unfold atI ixN
  have e : (-1 + ((xs ++ [y]).length : Int)).toNat = xs.length := by simp; omega
  rw [if_neg (by decide), if_pos (by simp; omega), Option.bind_some, Int.add_comm]
  rw [Int.add_comm, e]
  simp
theorem wt_app (a b : List Lk) : wt (a ++ b) = wt a + wt b := by
  unfold wt
  rw [List.map_append, List.sum_append]
theorem wt_one (k : Lk) : wt [k] = k.2.natAbs := by
  unfold wt
  simp
theorem wt_cons (k : Lk) (a : List Lk) : wt (k :: a) = k.2.natAbs + wt a := by
  unfold wt
  simp
theorem push_app (h : List Lk) (l k : Lk) : push (h ++ [l]) k = if l.1 = k.1 then (if l.2 + k.2 = 0 then h else h ++ [(k.1, l.2 + k.2)]) else if k.2 = 0 then h ++ [l] else h ++ [l] ++ [k] := by
  unfold push
  rw [List.getLast?_append]
  simp
theorem push_nil (k : Lk) : push [] k = if k.2 = 0 then [] else [k] := rfl
def ct_reduced (K : Fr) : Ct := ⟨RA, fun a => [rowD K a.1 a.2], fun a => Fit a.1 a.2, fun a => .ow (rowO K a.1 (red a.2))⟩
theorem ok_reduced (T : Tx K mg) {fd : FuncData} (F : L2.FunD K a_reduced.name a_reduced.qual a_reduced.params a_reduced.body a_reduced.scope [] [] (ga K "reduced") fd) : FnOk P w K mg base CX0 13 (ga K "reduced") fd ["row"] ((ct_reduced K).sp K) := by
  refine ct_ok F sc_reduced (fun a => rfl) fun cdv A outer s H E hr => ?_
  refine ⟨_, _, (pdss_cons (pds_set 1 (pd_lst pda_nil) sc_reduced.nd)
  (pdss_cons (pds_for PassesOwn.never rfl (pdi_seq (pd_fld T.f_Row_links (pd_name 0))) (pdg_name 2 sc_reduced.nd)
  (pdss_cons (pds_set 3 (pd_name 2) sc_reduced.nd)
  (pdss_cons (pds_if (PDW.pdt (pdw_and (pdt_cmp op_gt vo_cmp (pd_callB1 call_lenA vo_len T.b_len (pd_name 1)) pd_int (nomark _)) (pdw_and1 (pdt_cmp (op_eqD hr.units) vo_eq (pd_fld T.f_Link_part (pd_ix ix_seq vo_ix (pd_name 1) (pd_un un_neg vo_neg pd_int) (fun _ _ => rfl))) (pd_fld T.f_Link_part (pd_name 2)) (nomark _))))) (pdss_one (pds_set 3 (pd_call (d_joined_links T) (hr.mono (by decide)) (pda_cons (pd_pop 1) (pda_cons (pd_name 2) pda_nil))) sc_reduced.nd)) pdss_nil)
  (pdss_one (pds_if (pdt_not (pdt_val (pd_prop (p_Link_does_nothing T) (hr.mono (by decide)) (pd_name 3)))) (pdss_one (pds_expr (pd_app 1 (pd_name 3)))) pdss_nil)))))
  (pdss_one (pds_ret (pd_make (mk_Row T) (hr.mono (by decide)) (pda_cons (pd_name 1) pda_nil)))))), ?_⟩
  rintro ⟨S, ls⟩ h
  have h : Fit S ls := h
  obtain ⟨f1, f2, f3, f4⟩ := h
  refine ⟨⟨rfl, rfl⟩, ?_⟩
  refine forD_ind (f := lkD K S) (fun r ρ => ∃ h s2 s3, ρ = [.fr (rowD K S ls), .ow (.lst (h.map (lkD K S))), s2, s3] ∧ r.foldl push h = red ls ∧ wt h + wt r ≤ wt ls ∧ h.length + r.length ≤ ls.length) ⟨[], .un, .un, rfl, rfl, by simp [wt], by simp⟩ ?_ ?_
  · rintro x r ρ ⟨h, s2, s3, rfl, e1, e2, e3⟩ nx hn
    rw [wt_cons] at e2
    rw [List.length_cons] at e3
    rw [List.foldl_cons] at e1
    rcases List.eq_nil_or_concat h with rfl | ⟨h', l, rfl⟩
    · refine ⟨⟨_, _, rfl⟩, (S, x), rfl, f1, ?_⟩
      rw [push_nil] at e1
      refine ite2 (fun hc => ?_) (fun hc => ?_)
      · have hc : x.2 ≠ 0 := by simpa using hc
        rw [if_neg hc] at e1
        refine ⟨show (0 : Nat) < 100000 by decide, ?_⟩
        exact hn _ ⟨[x], _, _, rfl, e1, by rw [wt_one]; simpa [wt] using e2, by simp at e3 ⊢; omega⟩
      · have hc : x.2 = 0 := by simpa using hc
        rw [if_pos hc] at e1
        exact hn _ ⟨[], _, _, rfl, e1, by omega, by simp at e3 ⊢; omega⟩
    · rw [List.concat_eq_append] at e1 e2 e3 ⊢
      rw [push_app] at e1
      rw [wt_app, wt_one] at e2
      rw [List.length_append, List.length_singleton] at e3
      rw [List.map_append]
      have sx : Szk S x.2 := ⟨f1, f2, by omega⟩
      have sl : Szk S l.2 := ⟨f1, f2, by omega⟩
      refine iteT' (decide_eq_true (show (0 : Int) < ((h'.map (lkD K S) ++ [lkD K S l]).length : Nat) by simp)) ?_
      refine ob_iff.mpr ⟨lkD K S l, atI_last _ _, ?_⟩
      refine ⟨⟨rfl, rfl⟩, ⟨rfl, rfl⟩, ?_⟩
      refine obB_iff.mpr ⟨shP l.1 x.1, ?_⟩
      refine ite2 (fun hp => ?_) (fun hp => ?_)
      · have hp : l.1 = x.1 := of_decide_eq_true (eqP l.1 x.1 ▸ hp)
        rw [if_pos hp] at e1
        refine ob_iff.mpr ⟨lkD K S l, by simp, ?_⟩
        refine ⟨(S, x.1, l.2, x.2), by
          show [lkD K S l, lkD K S x] = [lkD K S (x.1, l.2), lkD K S x]
          rw [show (x.1, l.2) = l from by rw [← hp]], ⟨sl, sx⟩, ?_⟩
        refine ⟨⟨_, _, rfl⟩, (S, (x.1, l.2 + x.2)), rfl, f1, ?_⟩
        refine ite2 (fun hc => ?_) (fun hc => ?_)
        · have hc : l.2 + x.2 ≠ 0 := by simpa using hc
          rw [if_neg hc] at e1
          refine ⟨show ((h'.map (lkD K S) ++ [lkD K S l]).dropLast).length < 100000 by simp; omega, ?_⟩
          refine hn _ ⟨h' ++ [(x.1, l.2 + x.2)], .fr (lkD K S x), .fr (lkD K S (x.1, l.2 + x.2)), ?_, e1, ?_, ?_⟩
          · rw [List.map_append]
            show [_, Sl.ow (.lst ((h'.map (lkD K S) ++ [lkD K S l]).dropLast ++ [lkD K S (x.1, l.2 + x.2)])), _, _] = _
            rw [List.dropLast_concat]
            rfl
          · rw [wt_app, wt_one]
            show wt h' + (l.2 + x.2).natAbs + wt r ≤ wt ls
            omega
          · rw [List.length_append, List.length_singleton]
            omega
        · have hc : l.2 + x.2 = 0 := by simpa using hc
          rw [if_pos hc] at e1
          refine hn _ ⟨h', .fr (lkD K S x), .fr (lkD K S (x.1, l.2 + x.2)), ?_, e1, by omega, by omega⟩
          show [_, Sl.ow (.lst (h'.map (lkD K S) ++ [lkD K S l]).dropLast), _, _] = _
          rw [List.dropLast_concat]
          rfl
      · have hp : l.1 ≠ x.1 := fun z => hp (by rw [eqP]; exact decide_eq_true z)
        rw [if_neg hp] at e1
        refine ⟨⟨_, _, rfl⟩, (S, x), rfl, f1, ?_⟩
        refine ite2 (fun hc => ?_) (fun hc => ?_)
        · have hc : x.2 ≠ 0 := by simpa using hc
          rw [if_neg hc] at e1
          refine ⟨show (h'.map (lkD K S) ++ [lkD K S l]).length < 100000 by simp; omega, ?_⟩
          refine hn _ ⟨h' ++ [l] ++ [x], .fr (lkD K S x), .fr (lkD K S x), ?_, e1, ?_, ?_⟩
          · rw [List.map_append, List.map_append]
            rfl
          · rw [wt_app, wt_app, wt_one, wt_one]
            omega
          · simp
            omega
        · have hc : x.2 = 0 := by simpa using hc
          rw [if_pos hc] at e1
          refine hn _ ⟨h' ++ [l], .fr (lkD K S x), .fr (lkD K S x), ?_, e1, ?_, ?_⟩
          · rw [List.map_append]
            rfl
          · rw [wt_app, wt_one]
            omega
          · simp
            omega
  · rintro ρ ⟨h, s2, s3, rfl, e1, e2, e3⟩
    have e1 : h = red ls := e1
    subst e1
    refine ⟨(false, S, red ls), rfl, rfl, show (red ls).length ≤ 600 by simp at e3; omega, rfl, rfl⟩
theorem d_reduced (T : Tx K mg) : Gd P w K mg base "reduced" 13 [] ((ct_reduced K).sp K) := by
  obtain ⟨fd, F⟩ := T.d_reduced
  exact gd_of T.g_reduced F.kp (F.bindsN fun _ _ _ _ _ _ us hl => match us, hl with | [_], _ => rfl) (ok_reduced T F)
end
end W86
end
section
set_option Elab.async false
set_option linter.all false
set_option maxRecDepth 100000
set_option maxHeartbeats 4000000
set_option exponentiation.threshold 100000
/-! WE: rounded, growing, turns, shadows. -/
namespace W86
open PySem PySem.Spec PyProof.Rows L2 Evl DL
open He (ga ma)
open He5 (wf)
theorem cut1 {x : D} {xs : List D} : DL.cutD (x :: xs) (some 1) none = xs := by
  unfold DL.cutD
  have e : HT.sIx (x :: xs).length 0 (some 1) = 1 := by
    unfold HT.sIx
    simp
  have e2 : HT.sIx (x :: xs).length (x :: xs).length none = (x :: xs).length := rfl
  rw [e, e2]
  simp
theorem atI0 {x : D} {xs : List D} : atI (x :: xs) 0 = some x := by
  unfold atI ixN
  rw [if_pos (by decide), if_pos (by simp)]
  rfl
def fwd (ls : List Lk) : Bool := ls.all fun l => decide (0 ≤ l.2)
section
variable {P : Program} {w : World} {K : Fr} {mg : Str → Option Value} {base : Heap}
theorem bools_map {α : Type} (f : α → Bool) (xs : List α) : bools (xs.map fun x => D.bl (f x)) = some (xs.map f) := by
  induction xs with
  | nil => rfl
  | cons x xs ih =>
    rw [List.map_cons, List.map_cons]
    show (bools (xs.map fun x => D.bl (f x))).map (f x :: ·) = _
    rw [ih]
    rfl
def ct_is_forward (K : Fr) : Ct := ⟨RA, fun a => [rowD K a.1 a.2], fun a => 0 < a.1 ∧ a.2.length ≤ 600, fun a => .fr (.bl (fwd a.2))⟩
theorem ok_is_forward (T : Tx K mg) {fd : FuncData} (F : L2.FunD K a_is_forward.name a_is_forward.qual a_is_forward.params a_is_forward.body a_is_forward.scope [] [] (ga K "is_forward") fd) : FnOk P w K mg base CX0 5 (ga K "is_forward") fd ["row"] ((ct_is_forward K).sp K) := by
  refine ct_ok F sc_is_forward (fun a => rfl) fun cdv A outer s H E hr => ?_
  refine ⟨_, _, (pdss_one (pds_ret (pd_and (pd_prop (p_Row_is_true T) (hr.mono (by decide)) (pd_name 0)) (pd_one (pd_callB1 (cr_all rfl) vo_all T.b_all (pd_lc [("link", 1)] 1 rfl sc_is_forward.nd (pdi_seq (pd_fld T.f_Row_links (pd_name 0))) (fun _ _ _ _ _ => pdts_nil) (fun _ _ _ _ _ => (pd_cmp op_ge vo_cmp (pd_call (d_sign_of T) (hr.mono (by decide)) (pda_cons (pd_fld T.f_Link_length (pd_name 1)) pda_nil)) pd_int (nomark _))) (fun _ _ _ _ _ => pg_name (i := 1) sc_is_forward.nd rfl (Or.inl rfl)) (show blkC NN_is_forward (defScope s_is_forward) _ [("link", 1)] = true by decide +kernel))))))), ?_⟩
  rintro ⟨S, ls⟩ ⟨h0, h⟩
  have h0 : 0 < S := h0
  have h : ls.length ≤ 600 := h
  refine ⟨⟨_, _, rfl⟩, (S, ls), rfl, h, ?_⟩
  refine ⟨⟨rfl, rfl⟩, ?_⟩
  refine lcD_map (f := lkD K S) (fun l => .bl (decide (0 ≤ l.2))) [.fr (rowD K S ls), .un] rfl (show ls.length ≤ 100000 by omega) ?_ ?_
  · intro x acc _ hl nx hn
    refine ⟨⟨rfl, rfl⟩, len S x.2, rfl, trivial, hl, ?_⟩
    have e : decide ((0 : Int) ≤ (len S x.2).num.sign) = decide (0 ≤ x.2) := by
      rw [len_sign h0]
      exact decide_eq_decide.mpr Int.sign_nonneg_iff
    show nx (acc ++ [.bl (decide ((0 : Int) ≤ (len S x.2).num.sign))]) _
    rw [e]
    exact hn
  · refine ob_iff.mpr ⟨_, rfl, ?_⟩
    refine ob_iff.mpr ⟨_, bools_map (fun l : Lk => decide (0 ≤ l.2)) ls, ?_⟩
    show Res.fr (.bl (fwd ls)) = Res.fr (.bl ((ls.map fun l => decide (0 ≤ l.2)).all id))
    rw [List.all_map]
    rfl
theorem d_is_forward (T : Tx K mg) : Gd P w K mg base "is_forward" 5 [] ((ct_is_forward K).sp K) := by
  obtain ⟨fd, F⟩ := T.d_is_forward
  exact gd_of T.g_is_forward F.kp (F.bindsN fun _ _ _ _ _ _ us hl => match us, hl with | [_], _ => rfl) (ok_is_forward T F)
theorem push_le (h : List Lk) (k : Lk) : (push h k).length ≤ h.length + 1 := by
  rcases List.eq_nil_or_concat h with rfl | ⟨h', l, rfl⟩
  · rw [push_nil]
    split <;> simp
  · rw [List.concat_eq_append, push_app]
    split <;> split <;> simp <;> omega
theorem fold_le : ∀ (ls h : List Lk), (ls.foldl push h).length ≤ h.length + ls.length
  | [], h => Nat.le_refl _
  | k :: ls, h => by
    rw [List.foldl_cons, List.length_cons]
    have := fold_le ls (push h k)
    have := push_le h k
    omega
theorem red_le (ls : List Lk) : (red ls).length ≤ ls.length := by
  have := fold_le ls []
  unfold red
  simpa using this
theorem push_wt (h : List Lk) (k : Lk) : wt (push h k) ≤ wt h + k.2.natAbs := by
  rcases List.eq_nil_or_concat h with rfl | ⟨h', l, rfl⟩
  · rw [push_nil]
    split
    · simp [wt]
    · rw [wt_one]
      omega
  · rw [List.concat_eq_append, push_app]
    split <;> split <;> simp only [wt_app, wt_one] <;> omega
theorem fold_wt : ∀ (ls h : List Lk), wt (ls.foldl push h) ≤ wt h + wt ls
  | [], h => by simp [wt]
  | k :: ls, h => by
    rw [List.foldl_cons, wt_cons]
    have := fold_wt ls (push h k)
    have := push_wt h k
    omega
theorem red_wt (ls : List Lk) : wt (red ls) ≤ wt ls := by
  have := fold_wt ls []
  unfold red
  simpa [wt] using this
def ct_grows_once (K : Fr) : Ct := ⟨RA, fun a => [rowD K a.1 a.2], fun a => Fit a.1 a.2, fun a => .fr (.bl (!fwd (red a.2)))⟩
theorem ok_grows_once (T : Tx K mg) {fd : FuncData} (F : L2.FunD K a_grows_once.name a_grows_once.qual a_grows_once.params a_grows_once.body a_grows_once.scope [] [] (ga K "grows_once") fd) : FnOk P w K mg base CX0 14 (ga K "grows_once") fd ["row"] ((ct_grows_once K).sp K) := by
  refine ct_ok F sc_grows_once (fun a => rfl) fun cdv A outer s H E hr => ?_
  refine ⟨_, _, (pdss_one (pds_ret (pd_not (pd_call (d_is_forward T) (hr.mono (by decide)) (pda_cons (pd_call (d_reduced T) (hr.mono (by decide)) (pda_cons (pd_call (d_all_true T) (hr.mono (by decide)) (pda_cons (pd_name 0) pda_nil)) pda_nil)) pda_nil))))), ?_⟩
  rintro ⟨S, ls⟩ h
  have h : Fit S ls := h
  refine ⟨(S, ls), rfl, h.2.2.2, ?_⟩
  refine ⟨(S, ls), rfl, h, ?_⟩
  exact ⟨(S, red ls), rfl, ⟨h.1, Nat.le_trans (red_le ls) h.2.2.2⟩, rfl⟩
theorem d_grows_once (T : Tx K mg) : Gd P w K mg base "grows_once" 14 [] ((ct_grows_once K).sp K) := by
  obtain ⟨fd, F⟩ := T.d_grows_once
  exact gd_of T.g_grows_once F.kp (F.bindsN fun _ _ _ _ _ _ us hl => match us, hl with | [_], _ => rfl) (ok_grows_once T F)
def rndP : Nat → List Lk → List Lk → List Lk × List Lk
  | 0, ls, a => (ls, a)
  | _ + 1, [], a => ([], a)
  | n + 1, f :: m, a => match m.getLast? with
    | some l => if f.1 = l.1 then rndP n (if l.2 + f.2 = 0 then m.dropLast else (l.1, l.2 + f.2) :: m.dropLast) (a ++ [inv l]) else (f :: m, a)
    | none => (f :: m, a)
def rounded' (ls : List Lk) : List Lk × List Lk := rndP ls.length (red ls) []
theorem rndP_app (n : Nat) (f : Lk) (m : List Lk) (l : Lk) (a : List Lk) : rndP (n + 1) (f :: (m ++ [l])) a = if f.1 = l.1 then rndP n (if l.2 + f.2 = 0 then m else (l.1, l.2 + f.2) :: m) (a ++ [inv l]) else (f :: (m ++ [l]), a) := by
  conv => lhs; unfold rndP
  rw [List.getLast?_append]
  simp
theorem rndP_short {n : Nat} {ms a : List Lk} (h : ms.length ≤ 1) : rndP n ms a = (ms, a) := by
  cases n with
  | zero => rfl
  | succ n => match ms, h with
    | [], _ => rfl
    | [f], _ => rfl
def ct_rounded (K : Fr) : Ct := ⟨RA, fun a => [rowD K a.1 a.2], fun a => Fit a.1 a.2, fun a => .fr (.tup [rowD K a.1 (rounded' a.2).1, rowD K a.1 (rounded' a.2).2])⟩
theorem ok_rounded (T : Tx K mg) {fd : FuncData} (F : L2.FunD K a_rounded.name a_rounded.qual a_rounded.params a_rounded.body a_rounded.scope [] [] (ga K "rounded") fd) : FnOk P w K mg base CX0 14 (ga K "rounded") fd ["row"] ((ct_rounded K).sp K) := by
  refine ct_ok F sc_rounded (fun a => rfl) fun cdv A outer s H E hr => ?_
  refine ⟨_, _, (pdss_cons (pds_set 1 (pd_callTy1 call_list_of vo_lstOf T.b_list (pd_fld T.f_Row_links (pd_call (d_reduced T) (hr.mono (by decide)) (pda_cons (pd_name 0) pda_nil)))) sc_rounded.nd)
  (pdss_cons (pds_set 2 (pd_lst pda_nil) sc_rounded.nd)
  (pdss_cons (pds_while PassesOwn.never (PDW.pdt (pdw_and (pdt_cmp op_gt vo_cmp (pd_callB1 call_lenA vo_len T.b_len (pd_name 1)) pd_int (nomark _)) (pdw_and1 (pdt_cmp (op_eqD hr.units) vo_eq (pd_fld T.f_Link_part (pd_ix ix_seq vo_ix (pd_name 1) pd_int (fun _ _ => rfl))) (pd_fld T.f_Link_part (pd_ix ix_seq vo_ix (pd_name 1) (pd_un un_neg vo_neg pd_int) (fun _ _ => rfl))) (nomark _)))))
  (pdss_cons (pds_set 3 (pd_pop 1) sc_rounded.nd)
  (pdss_cons (pds_set 4 (pd_call (d_joined_links T) (hr.mono (by decide)) (pda_cons (pd_name 3) (pda_cons (pd_ix ix_seq vo_ix (pd_name 1) pd_int (fun _ _ => rfl)) pda_nil))) sc_rounded.nd)
  (pdss_cons (pds_set 1 (pd_ifExp (pdt_val (pd_prop (p_Link_does_nothing T) (hr.mono (by decide)) (pd_name 4))) (pd_slice sl_any vo_sl (pd_name 1) (pdo_some pd_int) pdo_none) (pd_op op_addA vo_add (pd_lst (pda_cons (pd_name 4) pda_nil)) (pd_slice sl_any vo_sl (pd_name 1) (pdo_some pd_int) pdo_none))) sc_rounded.nd)
  (pdss_one (pds_expr (pd_app 2 (pd_meth0 (m_Link_undone_link T) (hr.mono (by decide)) (pd_name 3)))))))))
  (pdss_one (pds_ret (pd_tup (pda_cons (pd_make (mk_Row T) (hr.mono (by decide)) (pda_cons (pd_name 1) pda_nil)) (pda_cons (pd_make (mk_Row T) (hr.mono (by decide)) (pda_cons (pd_name 2) pda_nil)) pda_nil)))))))), ?_⟩
  rintro ⟨S, ls⟩ h
  have h : Fit S ls := h
  obtain ⟨f1, f2, f3, f4⟩ := id h
  refine ⟨(S, ls), rfl, h, ?_⟩
  refine ⟨⟨rfl, rfl⟩, ?_⟩
  refine ⟨ls.length + 1, ?_⟩
  refine whD_ind (n := (red ls).length) (fun n ρ => ∃ ms a s3 s4 N, n = ms.length ∧ ρ = [.fr (rowD K S ls), .ow (.lst (ms.map (lkD K S))), .ow (.lst (a.map (lkD K S))), s3, s4] ∧ ms.length ≤ N ∧ rndP N ms a = rounded' ls ∧ wt ms ≤ wt ls ∧ ms.length + a.length ≤ ls.length) ⟨red ls, [], .un, .un, ls.length, rfl, rfl, red_le ls, rfl, red_wt ls, by have := red_le ls; simpa using this⟩ (by have := red_le ls; omega) ?_
  rintro n ρ ⟨ms, a, s3, s4, N, rfl, rfl, e1, e2, e3, e4⟩ nx hn
  have fin : (ms, a) = rounded' ls → (dRet (dTup (dCons false (dMake (ga K "Row") (cw_Row___init__ K) [] (dCons false (dVar 1) dNil)) (dCons false (dMake (ga K "Row") (cw_Row___init__ K) [] (dCons false (dVar 2) dNil)) dNil))) (dEnds ((ct_rounded K).res (S, ls))))
      [.fr (rowD K S ls), .ow (.lst (ms.map (lkD K S))), .ow (.lst (a.map (lkD K S))), s3, s4] := fun e => by
    refine ⟨(false, S, ms), rfl, rfl, show ms.length ≤ 600 by omega, rfl, ?_⟩
    refine ⟨(false, S, a), rfl, rfl, show a.length ≤ 600 by omega, rfl, ?_⟩
    show Res.fr (.tup [rowD K S (rounded' ls).1, rowD K S (rounded' ls).2]) = _
    rw [← e]
    rfl
  rcases List.eq_nil_or_concat ms with rfl | ⟨ms', l, rfl⟩
  · rw [rndP_short (by simp)] at e2
    exact fin e2
  · rw [List.concat_eq_append] at *
    cases ms' with
    | nil =>
      rw [rndP_short (by simp)] at e2
      exact fin e2
    | cons f m =>
      simp only [List.cons_append, List.length_cons, List.length_append, List.length_nil, wt_cons, wt_app, wt_one] at e1 e2 e3 e4 hn ⊢
      have sf : Szk S f.2 := ⟨f1, f2, by omega⟩
      have sl : Szk S l.2 := ⟨f1, f2, by omega⟩
      have em : (f :: (m ++ [l])).map (lkD K S) = lkD K S f :: (m.map (lkD K S)) ++ [lkD K S l] := by simp
      rw [em]
      refine iteT' (decide_eq_true (show (1 : Int) < ((lkD K S f :: (m.map (lkD K S)) ++ [lkD K S l]).length : Nat) by simp; omega)) ?_
      refine ob_iff.mpr ⟨lkD K S f, atI0, ?_⟩
      refine ⟨⟨rfl, rfl⟩, ?_⟩
      refine ob_iff.mpr ⟨.str f.1.s, rfl, ?_⟩
      refine ob_iff.mpr ⟨lkD K S l, atI_last _ _, ?_⟩
      refine ⟨⟨rfl, rfl⟩, ?_⟩
      refine obB_iff.mpr ⟨shP f.1 l.1, ?_⟩
      cases N with
      | zero => exact absurd e1 (by omega)
      | succ N =>
      rw [rndP_app] at e2
      refine ite2 (fun hp => ?_) (fun hp => ?_)
      · have hp : f.1 = l.1 := of_decide_eq_true (eqP f.1 l.1 ▸ hp)
        rw [if_pos hp] at e2
        refine ob_iff.mpr ⟨lkD K S l, by simp, ?_⟩
        have ed : (lkD K S f :: (m.map (lkD K S)) ++ [lkD K S l]).dropLast = lkD K S f :: m.map (lkD K S) := List.dropLast_concat
        refine ob_iff.mpr ⟨lkD K S f, by rw [ed]; exact atI0, ?_⟩
        refine ⟨(S, l.1, l.2, f.2), by
          show [lkD K S l, lkD K S f] = [lkD K S l, lkD K S (l.1, f.2)]
          rw [show (l.1, f.2) = f from by rw [← hp]], ⟨sl, sf⟩, ?_⟩
        refine ⟨⟨_, _, rfl⟩, (S, (l.1, l.2 + f.2)), rfl, f1, ?_⟩
        have e0 : wt [] = 0 := rfl
        have la : (a.map (lkD K S)).length < 100000 := by rw [List.length_map]; omega
        refine ite2 (fun hc => ?_) (fun hc => ?_)
        · have hc : l.2 + f.2 = 0 := of_decide_eq_true hc
          rw [if_pos hc] at e2
          refine ⟨⟨_, _, rfl, rfl⟩, (S, l), rfl, trivial, la, ?_⟩
          refine hn m.length _ (by omega) ⟨m, a ++ [inv l], .fr (lkD K S l), .fr (lkD K S (l.1, l.2 + f.2)), N, rfl, ?_, by omega, e2, by omega, by rw [List.length_append, List.length_singleton]; omega⟩
          show [_, Sl.ow (.lst (DL.cutD (lkD K S f :: (m.map (lkD K S)) ++ [lkD K S l]).dropLast (some 1) none)), Sl.ow (.lst (a.map (lkD K S) ++ [lkD K S (inv l)])), _, _] = _
          rw [ed, cut1, List.map_append]
          rfl
        · have hc : ¬ l.2 + f.2 = 0 := fun z => hc (decide_eq_true z)
          rw [if_neg hc] at e2
          have lm : ([lkD K S (l.1, l.2 + f.2)] : List D).length + (DL.cutD (lkD K S f :: (m.map (lkD K S)) ++ [lkD K S l]).dropLast (some 1) none).length ≤ 100000 := by
            rw [ed, cut1, List.length_map, List.length_singleton]
            omega
          refine ⟨lm, ?_⟩
          refine ⟨⟨_, _, rfl, rfl⟩, (S, l), rfl, trivial, la, ?_⟩
          refine hn (m.length + 1) _ (by omega) ⟨(l.1, l.2 + f.2) :: m, a ++ [inv l], .fr (lkD K S l), .fr (lkD K S (l.1, l.2 + f.2)), N, rfl, ?_, by rw [List.length_cons]; omega, e2, ?_, by rw [List.length_append, List.length_singleton, List.length_cons]; omega⟩
          · show [_, Sl.ow (.lst ([lkD K S (l.1, l.2 + f.2)] ++ DL.cutD (lkD K S f :: (m.map (lkD K S)) ++ [lkD K S l]).dropLast (some 1) none)), Sl.ow (.lst (a.map (lkD K S) ++ [lkD K S (inv l)])), _, _] = _
            rw [ed, cut1, List.map_append]
            rfl
          · rw [wt_cons]
            show (l.2 + f.2).natAbs + wt m ≤ wt ls
            omega
      · have hp : f.1 ≠ l.1 := fun z => hp (by rw [eqP]; exact decide_eq_true z)
        rw [if_neg hp] at e2
        have := fin e2
        have em2 : (f :: m ++ [l]).map (lkD K S) = lkD K S f :: (m.map (lkD K S)) ++ [lkD K S l] := em
        rw [em2] at this
        exact this
theorem d_rounded (T : Tx K mg) : Gd P w K mg base "rounded" 14 [] ((ct_rounded K).sp K) := by
  obtain ⟨fd, F⟩ := T.d_rounded
  exact gd_of T.g_rounded F.kp (F.bindsN fun _ _ _ _ _ _ us hl => match us, hl with | [_], _ => rfl) (ok_rounded T F)
theorem rndP_le : ∀ (n : Nat) (ms a : List Lk), (rndP n ms a).1.length ≤ ms.length
  | 0, ms, a => Nat.le_refl _
  | n + 1, ms, a => by
    rcases List.eq_nil_or_concat ms with rfl | ⟨ms', l, rfl⟩
    · exact Nat.le_refl _
    · rw [List.concat_eq_append]
      cases ms' with
      | nil => exact Nat.le_refl _
      | cons f m =>
        rw [List.cons_append, rndP_app]
        split
        · split
          · have := rndP_le n m (a ++ [inv l])
            simp
            omega
          · have := rndP_le n ((l.1, l.2 + f.2) :: m) (a ++ [inv l])
            simp at this ⊢
            omega
        · exact Nat.le_refl _
theorem rounded_le (ls : List Lk) : (rounded' ls).1.length ≤ ls.length := Nat.le_trans (rndP_le _ _ _) (red_le ls)
def ct_grows_ever (K : Fr) : Ct := ⟨RA, fun a => [rowD K a.1 a.2], fun a => Fit a.1 a.2, fun a => .fr (.bl (!fwd (rounded' a.2).1))⟩
theorem ok_grows_ever (T : Tx K mg) {fd : FuncData} (F : L2.FunD K a_grows_ever.name a_grows_ever.qual a_grows_ever.params a_grows_ever.body a_grows_ever.scope [] [] (ga K "grows_ever") fd) : FnOk P w K mg base CX0 15 (ga K "grows_ever") fd ["row"] ((ct_grows_ever K).sp K) := by
  refine ct_ok F sc_grows_ever (fun a => rfl) fun cdv A outer s H E hr => ?_
  refine ⟨_, _, (pdss_one (pds_ret (pd_not (pd_call (d_is_forward T) (hr.mono (by decide)) (pda_cons (pd_ix ix_seq vo_ix (pd_call (d_rounded T) (hr.mono (by decide)) (pda_cons (pd_call (d_all_true T) (hr.mono (by decide)) (pda_cons (pd_name 0) pda_nil)) pda_nil)) pd_int (fun _ _ => rfl)) pda_nil))))), ?_⟩
  rintro ⟨S, ls⟩ h
  have h : Fit S ls := h
  refine ⟨(S, ls), rfl, h.2.2.2, ?_⟩
  refine ⟨(S, ls), rfl, h, ?_⟩
  exact ⟨(S, (rounded' ls).1), rfl, ⟨h.1, Nat.le_trans (rounded_le ls) h.2.2.2⟩, rfl⟩
theorem d_grows_ever (T : Tx K mg) : Gd P w K mg base "grows_ever" 15 [] ((ct_grows_ever K).sp K) := by
  obtain ⟨fd, F⟩ := T.d_grows_ever
  exact gd_of T.g_grows_ever F.kp (F.bindsN fun _ _ _ _ _ _ us hl => match us, hl with | [_], _ => rfl) (ok_grows_ever T F)
/-- a row turned by j links -/
def turn (ls : List Lk) (j : Nat) : List Lk := ls.drop j ++ ls.take j
def turnsL (ls : List Lk) : List (List Lk) := if ls.length = 0 then [[]] else (List.range ls.length).map (turn ls)
theorem cutFrom {xs : List D} {j : Nat} (h : j ≤ xs.length) : DL.cutD xs (some (j : Int)) none = xs.drop j := by
  unfold DL.cutD
  rw [HT.sIx_nat, HT.sIx_none, Nat.min_eq_left h]
  exact List.take_of_length_le (by rw [List.length_drop]; omega)
theorem cutTo {xs : List D} {j : Nat} (h : j ≤ xs.length) : DL.cutD xs none (some (j : Int)) = xs.take j := by
  unfold DL.cutD
  rw [HT.sIx_nat, HT.sIx_none, Nat.min_eq_left h, List.drop_zero, Nat.sub_zero]
def ct_turns_of (K : Fr) : Ct := ⟨RA, fun a => [rowD K a.1 a.2], fun a => a.2.length ≤ 600, fun a => .fr (.tup ((turnsL a.2).map (rowD K a.1)))⟩
theorem ok_turns_of (T : Tx K mg) {fd : FuncData} (F : L2.FunD K a_turns_of.name a_turns_of.qual a_turns_of.params a_turns_of.body a_turns_of.scope [] [] (ga K "turns_of") fd) : FnOk P w K mg base CX0 4 (ga K "turns_of") fd ["row"] ((ct_turns_of K).sp K) := by
  refine ct_ok F sc_turns_of (fun a => rfl) fun cdv A outer s H E hr => ?_
  refine ⟨_, _, (pdss_cons (pds_if (pdt_cmp (op_eqD hr.units) vo_eq (pd_callB1 call_lenA vo_len T.b_len (pd_fld T.f_Row_links (pd_name 0))) pd_int (nomark _)) (pdss_one (pds_ret (pd_tup (pda_cons (pd_make (mk_Row T) (hr.mono (by decide)) (pda_cons (pd_tup pda_nil) pda_nil)) pda_nil)))) pdss_nil)
  (pdss_one (pds_ret (pd_callTy1 call_tuple_of vo_tupOf T.b_tuple (pd_lc [("j", 1)] 1 rfl sc_turns_of.nd (pdi_range1 T.b_range (pda_cons (pd_callB1 call_lenA vo_len T.b_len (pd_fld T.f_Row_links (pd_name 0))) pda_nil)) (fun _ _ _ _ _ => pdts_nil) (fun _ _ _ _ _ => (pd_make (mk_Row T) (hr.mono (by decide)) (pda_cons (pd_op op_addA vo_add (pd_slice sl_any vo_sl (pd_fld T.f_Row_links (pd_name 0)) (pdo_some (pd_name 1)) pdo_none) (pd_slice sl_any vo_sl (pd_fld T.f_Row_links (pd_name 0)) pdo_none (pdo_some (pd_name 1)))) pda_nil))) (fun _ _ _ _ _ => pg_name (i := 1) sc_turns_of.nd rfl (Or.inl rfl)) (show blkC NN_turns_of (defScope s_turns_of) _ [("j", 1)] = true by decide +kernel)))))), ?_⟩
  rintro ⟨S, ls⟩ h
  have h : ls.length ≤ 600 := h
  refine ⟨⟨rfl, rfl⟩, ?_⟩
  refine ite2 (fun h' => ?_) (fun h' => ?_)
  · have h' : (((ls.map (lkD K S)).length : Nat) : Int) = 0 := of_decide_eq_true (eqI ▸ h')
    rw [List.length_map] at h'
    have e : ls = [] := List.length_eq_zero_iff.mp (by omega)
    subst e
    exact ⟨(true, S, []), rfl, rfl, show (0 : Nat) ≤ 600 by decide, rfl, rfl⟩
  · have h' : ¬ ((((ls.map (lkD K S)).length : Nat) : Int) = 0) := fun z => h' (by rw [eqI]; exact decide_eq_true z)
    rw [List.length_map] at h'
    refine ⟨⟨rfl, rfl⟩, ?_⟩
    have hb : (((ls.map (lkD K S)).length : Nat) : Int) ≤ 100000 ∧ (-100000 : Int) ≤ (((ls.map (lkD K S)).length : Nat) : Int) := by
      rw [List.length_map]
      omega
    refine ⟨hb, ?_⟩
    have er : rng 0 ((((ls.map (lkD K S)).length : Nat) : Int)).toNat = (List.range ls.length).map fun (j : Nat) => D.int (j : Int) := by
      unfold rng
      rw [List.length_map, Int.toNat_natCast]
      refine List.map_congr_left fun j _ => ?_
      rw [Int.zero_add]
    show lcD _ _ _ _ _ (rng 0 ((((ls.map (lkD K S)).length : Nat) : Int)).toNat) [] _ _
    rw [er]
    refine lcD_map (f := fun (j : Nat) => D.int (j : Int)) (fun j => rowD K S (turn ls j)) [.fr (rowD K S ls), .un] rfl (show (List.range ls.length).length ≤ 100000 by rw [List.length_range]; omega) ?_ ?_
    · intro j acc hj hl nx hn
      have hj := List.mem_range.mp hj
      have lm : j ≤ (ls.map (lkD K S)).length := by rw [List.length_map]; omega
      refine ⟨⟨rfl, rfl⟩, ⟨rfl, rfl⟩, ?_⟩
      have e1 : DL.cutD (ls.map (lkD K S)) (some (j : Int)) none = (ls.drop j).map (lkD K S) := by rw [cutFrom lm, List.map_drop]
      have e2 : DL.cutD (ls.map (lkD K S)) none (some (j : Int)) = (ls.take j).map (lkD K S) := by rw [cutTo lm, List.map_take]
      have e3 : (ls.drop j).length + (ls.take j).length = ls.length := by
        rw [List.length_drop, List.length_take]
        omega
      refine ⟨?_, ?_⟩
      · show (DL.cutD (ls.map (lkD K S)) (some (j : Int)) none).length + (DL.cutD (ls.map (lkD K S)) none (some (j : Int))).length ≤ 100000
        rw [e1, e2, List.length_map, List.length_map]
        omega
      · refine ⟨(true, S, turn ls j), rfl, ?_, ?_, rfl, hl, hn⟩
        · show [D.tup (DL.cutD (ls.map (lkD K S)) (some (j : Int)) none ++ DL.cutD (ls.map (lkD K S)) none (some (j : Int)))] = [.tup ((turn ls j).map (lkD K S))]
          rw [e1, e2]
          unfold turn
          rw [List.map_append]
        · show (turn ls j).length ≤ 600
          unfold turn
          rw [List.length_append]
          omega
    · show Res.fr (.tup ((turnsL ls).map (rowD K S))) = Res.fr (.tup ((List.range ls.length).map fun j => rowD K S (turn ls j)))
      unfold turnsL
      rw [if_neg (by omega), List.map_map]
      rfl
theorem d_turns_of (T : Tx K mg) : Gd P w K mg base "turns_of" 4 [] ((ct_turns_of K).sp K) := by
  obtain ⟨fd, F⟩ := T.d_turns_of
  exact gd_of T.g_turns_of F.kp (F.bindsN fun _ _ _ _ _ _ us hl => match us, hl with | [_], _ => rfl) (ok_turns_of T F)
def ct_Row_repeated (K : Fr) : Ct := ⟨Nat × List Lk × Nat, fun a => [rowD K a.1 a.2.1, .int a.2.2], fun a => 1 ≤ a.2.2 ∧ a.2.2 ≤ 100 ∧ a.2.1.length * a.2.2 ≤ 600 ∧ a.2.1.length ≤ 600, fun a => .ow (rowO K a.1 (List.replicate a.2.2 a.2.1).flatten)⟩
theorem ok_Row_repeated (T : Tx K mg) {fd : FuncData} (F : L2.FunD K a_Row_repeated.name a_Row_repeated.qual a_Row_repeated.params a_Row_repeated.body a_Row_repeated.scope [] [] (ma K (ga K "Row") "repeated") fd) : FnOk P w K mg base CX0 4 (ma K (ga K "Row") "repeated") fd ["self", "many"] ((ct_Row_repeated K).sp K) := by
  refine ct_ok F sc_Row_repeated (fun a => rfl) fun cdv A outer s H E hr => ?_
  refine ⟨_, _, (pdss_cons (pds_if (PDW.pdt (pdw_or (pdt_not (pdt_val (pd_call (d_is_whole T) (hr.mono (by decide)) (pda_cons (pd_name 1) pda_nil)))) (pdw_or1 (pdt_cmp op_lt vo_cmp (pd_name 1) pd_int (nomark _))))) (pdss_one pds_never) pdss_nil)
  (pdss_cons (pds_if (pdt_cmp op_gt vo_cmp (pd_op op_mulA vo_mul (pd_name 1) (pd_callB1 call_lenA vo_len T.b_len (pd_fld T.f_Row_links (pd_name 0)))) (pd_kon T.k_LINK_BOUND) (nomark _)) (pdss_one pds_never) pdss_nil)
  (pdss_one (pds_ret (pd_make (mk_Row T) (hr.mono (by decide)) (pda_cons (pd_ifExp (pdt_cmp op_gt vo_cmp (pd_callB1 call_lenA vo_len T.b_len (pd_fld T.f_Row_links (pd_name 0))) pd_int (nomark _)) (pd_op op_repTA vo_repT (pd_fld T.f_Row_links (pd_name 0)) (pd_name 1)) (pd_tup pda_nil)) pda_nil)))))), ?_⟩
  rintro ⟨S, ls, n⟩ h
  have h : 1 ≤ n ∧ n ≤ 100 ∧ ls.length * n ≤ 600 ∧ ls.length ≤ 600 := h
  obtain ⟨h1, h2, h3, h4⟩ := h
  refine ⟨(n : Int), rfl, trivial, ?_⟩
  refine ⟨⟨rfl, rfl⟩, ?_⟩
  have lm : (ls.map (lkD K S)).length = ls.length := List.length_map _
  refine ⟨?_, ?_⟩
  · show CMul (n : Int) ((ls.map (lkD K S)).length : Nat) ∨ CMulW (n : Int) ((ls.map (lkD K S)).length : Nat)
    rw [lm]
    have e : (600 : Nat) < 2 ^ 100 := by decide
    exact mulS (by omega) (by omega)
  · refine iteF' (fun h' => ?_) ?_
    · have h' := of_decide_eq_true h'
      have h' : (600 : Int) < (n : Int) * ((ls.map (lkD K S)).length : Nat) := h'
      rw [lm, ← Int.natCast_mul, Nat.mul_comm] at h'
      omega
    · refine ⟨⟨rfl, rfl⟩, ?_⟩
      refine ite2 (fun h' => ?_) (fun h' => ?_)
      · have h' := of_decide_eq_true h'
        have h' : (0 : Int) < ((ls.map (lkD K S)).length : Nat) := h'
        refine ⟨⟨rfl, rfl⟩, ⟨?_, ?_, ?_, ?_⟩, ?_⟩
        · intro z
          rw [z] at h'
          simp at h'
        · show (1 : Int) ≤ (n : Int)
          omega
        · show (n : Int) ≤ 1000
          omega
        · show (ls.map (lkD K S)).length ≤ 1000
          omega
        · refine ⟨(true, S, (List.replicate n ls).flatten), rfl, ?_, ?_, rfl, rfl⟩
          · show [D.tup (List.replicate (n : Int).toNat (ls.map (lkD K S))).flatten] = [.tup ((List.replicate n ls).flatten.map (lkD K S))]
            rw [Int.toNat_natCast, List.map_flatten, List.map_replicate]
          · show (List.replicate n ls).flatten.length ≤ 600
            rw [PyProof.Rows.lm_len_rep_flat, Nat.mul_comm]
            exact h3
      · have h' : ¬ (0 : Int) < ((ls.map (lkD K S)).length : Nat) := fun z => h' (decide_eq_true z)
        rw [lm] at h'
        have e : ls = [] := List.length_eq_zero_iff.mp (by omega)
        subst e
        refine ⟨(true, S, []), rfl, rfl, show (0 : Nat) ≤ 600 by decide, rfl, ?_⟩
        show Res.ow (rowO K S (List.replicate n []).flatten) = Res.ow (rowO K S [])
        rw [List.flatten_replicate_nil]
theorem m_Row_repeated (T : Tx K mg) : Md P w K mg base (ga K "Row") "repeated" 4 ((ct_Row_repeated K).sp K) := by
  obtain ⟨fd, F⟩ := T.d_Row_repeated
  exact md_of T.c_Row T.q_Row_repeated (F.bindsN fun _ _ _ _ _ _ us hl => match us, hl with | [_, _], _ => rfl) (ok_Row_repeated T F)
/-- what the links on one part come to -/
def shadow (p : Pt) (ls : List Lk) : Int := (ls.map fun l => if l.1 = p then l.2 else 0).sum
theorem shadow_cons (p : Pt) (l : Lk) (ls : List Lk) : shadow p (l :: ls) = (if l.1 = p then l.2 else 0) + shadow p ls := by
  unfold shadow
  rw [List.map_cons, List.sum_cons]
def ct_Row_shadow (K : Fr) : Ct := ⟨Nat × List Lk × Pt, fun a => [rowD K a.1 a.2.1, .str a.2.2.s], fun a => Fit a.1 a.2.1, fun a => .ow (lkO K a.1 (a.2.2, shadow a.2.2 a.2.1))⟩
theorem ok_Row_shadow (T : Tx K mg) {fd : FuncData} (F : L2.FunD K a_Row_shadow.name a_Row_shadow.qual a_Row_shadow.params a_Row_shadow.body a_Row_shadow.scope [] [] (ma K (ga K "Row") "shadow") fd) : FnOk P w K mg base CX0 13 (ma K (ga K "Row") "shadow") fd ["self", "part"] ((ct_Row_shadow K).sp K) := by
  refine ct_ok F sc_Row_shadow (fun a => rfl) fun cdv A outer s H E hr => ?_
  refine ⟨_, _, (pdss_cons (pds_set 2 (pd_make (mk_Link2 T) (hr.mono (by decide)) (pda_cons (pd_call (d_check_part T) (hr.mono (by decide)) (pda_cons (pd_name 1) pda_nil)) (pda_cons (pd_kon T.k_ZERO) pda_nil))) sc_Row_shadow.nd)
  (pdss_cons (pds_for PassesOwn.never rfl (pdi_seq (pd_fld T.f_Row_links (pd_name 0))) (pdg_name 3 sc_Row_shadow.nd)
  (pdss_one (pds_if (pdt_cmp (op_eqD hr.units) vo_eq (pd_fld T.f_Link_part (pd_name 3)) (pd_name 1) (nomark _)) (pdss_one (pds_set 2 (pd_call (d_joined_links T) (hr.mono (by decide)) (pda_cons (pd_name 2) (pda_cons (pd_name 3) pda_nil))) sc_Row_shadow.nd)) pdss_nil)))
  (pdss_one (pds_ret (pd_name 2))))), ?_⟩
  rintro ⟨S, ls, p⟩ h
  have h : Fit S ls := h
  obtain ⟨f1, f2, f3, f4⟩ := h
  refine ⟨p, rfl, trivial, ?_⟩
  refine ⟨(p, (0 : Rat), false), rfl, rfl, sz0, rfl, ?_⟩
  refine ⟨⟨rfl, rfl⟩, ?_⟩
  refine forD_ind (f := lkD K S) (fun r ρ => ∃ k s3, ρ = [.fr (rowD K S ls), .fr (.str p.s), .ow (lkO K S (p, k)), s3] ∧ k + shadow p r = shadow p ls ∧ k.natAbs + wt r ≤ wt ls) ⟨0, .un, ?_, Int.zero_add _, by simp⟩ ?_ ?_
  · show [_, _, Sl.ow (.obj (ga K "Link") ["part", "length", "func"] [.str p.s, num 0, fone K]), _] = [_, _, Sl.ow (.obj (ga K "Link") ["part", "length", "func"] [.str p.s, num (len S 0), fone K]), _]
    rw [len_zero]
  · rintro x r ρ ⟨k, s3, rfl, e1, e2⟩ nx hn
    rw [shadow_cons] at e1
    rw [wt_cons] at e2
    refine ⟨⟨rfl, rfl⟩, ?_⟩
    refine obB_iff.mpr ⟨shP x.1 p, ?_⟩
    refine ite2 (fun hp => ?_) (fun hp => ?_)
    · have hp : x.1 = p := of_decide_eq_true (eqP x.1 p ▸ hp)
      rw [if_pos hp] at e1
      refine ⟨(S, p, k, x.2), by
        show [lkD K S (p, k), lkD K S x] = [lkD K S (p, k), lkD K S (p, x.2)]
        rw [show (p, x.2) = x from by rw [← hp]], ⟨show Szk S k from ⟨f1, f2, by omega⟩, show Szk S x.2 from ⟨f1, f2, by omega⟩⟩, ?_⟩
      exact hn _ ⟨k + x.2, .fr (lkD K S x), rfl, by omega, by omega⟩
    · have hp : x.1 ≠ p := fun z => hp (by rw [eqP]; exact decide_eq_true z)
      rw [if_neg hp] at e1
      exact hn _ ⟨k, .fr (lkD K S x), rfl, by omega, by omega⟩
  · rintro ρ ⟨k, s3, rfl, e1, e2⟩
    have e1 : k = shadow p ls := by
      have : shadow p [] = 0 := rfl
      omega
    subst e1
    rfl
theorem m_Row_shadow (T : Tx K mg) : Md P w K mg base (ga K "Row") "shadow" 13 ((ct_Row_shadow K).sp K) := by
  obtain ⟨fd, F⟩ := T.d_Row_shadow
  exact md_of T.c_Row T.q_Row_shadow (F.bindsN fun _ _ _ _ _ _ us hl => match us, hl with | [_, _], _ => rfl) (ok_Row_shadow T F)
/-- == of two links -/
def ct_Link___eq__ (K : Fr) : Ct := ⟨Nat × Lk × Lk, fun a => [lkD K a.1 a.2.1, lkD K a.1 a.2.2], fun a => 0 < a.1, fun a => .fr (.bl (decide (a.2.1 = a.2.2)))⟩
theorem len_inj {S : Nat} (h : 0 < S) {k l : Int} : len S k = len S l ↔ k = l := by
  constructor
  · intro e
    have e2 : len S (k + -l) = 0 := by
      rw [← len_add h, ← len_neg, e]
      grind
    have := (len_eq_zero h _).mp e2
    omega
  · intro e
    rw [e]
theorem ok_Link___eq__ (T : Tx K mg) {fd : FuncData} (F : L2.FunD K a_Link___eq__.name a_Link___eq__.qual a_Link___eq__.params a_Link___eq__.body a_Link___eq__.scope [] [] (ma K (ga K "Link") "__eq__") fd) : FnOk P w K mg base CX0 2 (ma K (ga K "Link") "__eq__") fd ["self", "other"] ((ct_Link___eq__ K).sp K) := by
  refine ct_ok F sc_Link___eq__ (fun a => rfl) fun cdv A outer s H E hr => ?_
  refine ⟨_, _, (pdss_cons (pds_if (pdt_not (pdt_val (pd_isC T.i_Link T.b_isinstance (pd_name 1)))) (pdss_one (pds_ret pd_bl)) pdss_nil)
  (pdss_one (pds_ret (pd_and (pd_cmp (op_eqD hr.units) vo_eq (pd_fld T.f_Link_part (pd_name 0)) (pd_fld T.f_Link_part (pd_name 1)) (nomark _)) (pd_and (pd_cmp (op_eqD hr.units) vo_eq (pd_fld T.f_Link_length (pd_name 0)) (pd_fld T.f_Link_length (pd_name 1)) (nomark _)) (pd_one (pd_ownEq (m_Func___eq__ T) (hr.mono (by decide)) (pd_fld T.f_Link_func (pd_name 0)) (pd_fld T.f_Link_func (pd_name 1)) (nomark _)))))))), ?_⟩
  rintro ⟨S, x, y⟩ h
  have h : 0 < S := h
  refine ⟨⟨_, _, rfl⟩, ?_⟩
  refine ⟨⟨rfl, rfl⟩, ⟨rfl, rfl⟩, ?_⟩
  refine obB_iff.mpr ⟨shP x.1 y.1, ?_⟩
  refine ite2 (fun hp => ?_) (fun hp => ?_)
  · have hp : x.1 = y.1 := of_decide_eq_true (eqP x.1 y.1 ▸ hp)
    refine ⟨⟨rfl, rfl⟩, ⟨rfl, rfl⟩, ?_⟩
    refine ite2 (fun hq => ?_) (fun hq => ?_)
    · have hq : len S x.2 = len S y.2 := of_decide_eq_true (eq_num ▸ hq)
      have e : x = y := Prod.ext hp ((len_inj h).mp hq)
      refine ⟨⟨rfl, rfl⟩, ⟨rfl, rfl⟩, ⟨⟨_, _, rfl⟩, ⟨_, _, rfl⟩⟩, (), rfl, trivial, trivial, ?_⟩
      exact congrArg (fun b => Res.fr (.bl b)) (decide_eq_true e)
    · have hq : ¬ (len S x.2 = len S y.2) := fun z => hq (by
        have := eq_num (x := len S x.2) (y := len S y.2)
        exact this.trans (decide_eq_true z))
      have e : x ≠ y := fun z => hq (by rw [z])
      exact congrArg (fun b => Res.fr (.bl b)) (decide_eq_false e)
  · have hp : x.1 ≠ y.1 := fun z => hp (by rw [eqP]; exact decide_eq_true z)
    have e : x ≠ y := fun z => hp (by rw [z])
    exact congrArg (fun b => Res.fr (.bl b)) (decide_eq_false e)
theorem m_Link___eq__ (T : Tx K mg) : Md P w K mg base (ga K "Link") "__eq__" 2 ((ct_Link___eq__ K).sp K) := by
  obtain ⟨fd, F⟩ := T.d_Link___eq__
  exact md_of T.c_Link T.q_Link___eq__ (F.bindsN fun _ _ _ _ _ _ us hl => match us, hl with | [_, _], _ => rfl) (ok_Link___eq__ T F)
end
end W86
end
section
set_option Elab.async false
set_option linter.all false
set_option maxRecDepth 100000
set_option maxHeartbeats 1000000
set_option exponentiation.threshold 100000
/-! PL: the plain law: normal forms, and what turning keeps. -/
namespace W86
open PySem PySem.Spec PyProof.Rows L2 Evl DL
/-- a reduced word -/
structure Rdc (w : List Lk) : Prop where
  nz : ∀ x ∈ w, x.2 ≠ 0
  alt : ∀ a x y b, w = a ++ x :: y :: b → x.1 ≠ y.1
theorem rd_nil : Rdc [] := ⟨fun x h => by simp at h, fun a x y b h => by simp at h⟩
theorem rd_one {k : Lk} (h : k.2 ≠ 0) : Rdc [k] := ⟨fun x h => by simp at h; subst h; assumption, fun a x y b h => by
  have := congrArg List.length h
  simp at this
  omega⟩
theorem Rdc.mid {a w b : List Lk} (h : Rdc (a ++ w ++ b)) : Rdc w := ⟨fun x hx => h.nz x (by simp [hx]), fun a' x y b' e => h.alt (a ++ a') x y (b' ++ b) (by rw [e]; simp)⟩
theorem Rdc.left {a b : List Lk} (h : Rdc (a ++ b)) : Rdc a := Rdc.mid (a := []) (b := b) (by simpa using h)
theorem Rdc.right {a b : List Lk} (h : Rdc (a ++ b)) : Rdc b := Rdc.mid (a := a) (b := []) (by simpa using h)
theorem Rdc.snoc {g : List Lk} {l : Lk} (h : Rdc g) (hl : l.2 ≠ 0) (hd : ∀ g' m, g = g' ++ [m] → m.1 ≠ l.1) : Rdc (g ++ [l]) := by
  refine ⟨fun x hx => ?_, fun a x y b e => ?_⟩
  · rcases List.mem_append.mp hx with hx | hx
    · exact h.nz x hx
    · simp at hx; subst hx; exact hl
  · rcases List.eq_nil_or_concat b with rfl | ⟨b', z, rfl⟩
    · have e' : g ++ [l] = (a ++ [x]) ++ [y] := by rw [e]; simp
      obtain ⟨e1, e2⟩ := List.append_inj' e' rfl
      simp at e2
      subst e2
      exact hd a x e1
    · rw [List.concat_eq_append] at e
      have e' : g ++ [l] = (a ++ x :: y :: b') ++ [z] := by rw [e]; simp
      obtain ⟨e1, e2⟩ := List.append_inj' e' rfl
      exact h.alt a x y b' e1
theorem Rdc.last {g : List Lk} {m l : Lk} (h : Rdc (g ++ [m] ++ [l])) : m.1 ≠ l.1 := h.alt g m l [] (by simp)
/-- changing the last link's length -/
theorem Rdc.chg {g : List Lk} {l : Lk} {p : Pt} {s : Int} (h : Rdc (g ++ [l])) (hp : l.1 = p) (hs : s ≠ 0) : Rdc (g ++ [(p, s)]) := by
  refine h.left.snoc hs fun g' m e => ?_
  subst e
  subst hp
  exact h.last
theorem Rdc.pushR {g : List Lk} (h : Rdc g) (k : Lk) : Rdc (push g k) := by
  rcases List.eq_nil_or_concat g with rfl | ⟨g', l, rfl⟩
  · rw [push_nil]
    split
    · exact rd_nil
    · exact rd_one (by assumption)
  · rw [List.concat_eq_append] at *
    rw [push_app]
    split
    · rename_i hp
      split
      · exact h.left
      · rename_i hs
        exact h.chg hp hs
    · rename_i hp
      split
      · exact h
      · rename_i hs
        refine h.snoc hs fun g2 m e => ?_
        obtain ⟨e1, e2⟩ := List.append_inj' e rfl
        simp at e2
        subst e2
        exact hp
theorem Rdc.fold {g : List Lk} (h : Rdc g) : ∀ (w : List Lk), Rdc (w.foldl push g) := by
  intro w
  induction w generalizing g with
  | nil => exact h
  | cons k w ih => exact ih (h.pushR k)
theorem rd_red (w : List Lk) : Rdc (red w) := rd_nil.fold w
/-- two links on one part, behind each other -/
theorem push2 {g : List Lk} (h : Rdc g) (p : Pt) (s t : Int) : push (push g (p, s)) (p, t) = push g (p, s + t) := by
  rcases List.eq_nil_or_concat g with rfl | ⟨g', l, rfl⟩
  · rw [push_nil, push_nil]
    by_cases hs : s = 0
    · subst hs
      simp [push_nil]
    · rw [if_neg (by simpa using hs)]
      have := push_app [] (p, s) (p, t)
      simp at this
      simpa using this
  · rw [List.concat_eq_append] at *
    rw [push_app, push_app]
    by_cases hp : l.1 = p
    · simp only [hp, if_true]
      by_cases h1 : l.2 + s = 0
      · rw [if_pos h1]
        rcases List.eq_nil_or_concat g' with rfl | ⟨g2, m, rfl⟩
        · rw [push_nil]
          simp only [List.nil_append]
          by_cases ht : t = 0
          · rw [if_pos ht, if_pos (by omega)]
          · rw [if_neg ht, if_neg (by omega), show l.2 + (s + t) = t by omega]
        · rw [List.concat_eq_append] at *
          rw [push_app]
          have hm : m.1 ≠ p := by rw [← hp]; exact h.last
          simp only [hm, if_false]
          by_cases ht : t = 0
          · rw [if_pos ht, if_pos (by omega)]
          · rw [if_neg ht, if_neg (by omega), show l.2 + (s + t) = t by omega]
      · rw [if_neg h1, push_app]
        simp only [if_true]
        rw [show l.2 + (s + t) = l.2 + s + t by omega]
    · simp only [hp, if_false]
      by_cases hs : s = 0
      · subst hs
        rw [if_pos rfl, push_app]
        simp only [hp, if_false, Int.zero_add]
      · rw [if_neg hs, push_app]
        simp only [if_true]
theorem push0 {g : List Lk} (h : Rdc g) (p : Pt) : push g (p, 0) = g := by
  rcases List.eq_nil_or_concat g with rfl | ⟨g', l, rfl⟩
  · rfl
  · rw [List.concat_eq_append] at *
    rw [push_app]
    have := h.nz l (by simp)
    by_cases hp : l.1 = p
    · simp only [hp, if_true, Int.add_zero]
      rw [if_neg this, ← hp]
    · simp only [hp, if_false, if_true]
/-- a reduced word stays -/
theorem fold_app {g w : List Lk} (hw : Rdc (g ++ w)) : w.foldl push g = g ++ w := by
  induction w generalizing g with
  | nil => simp
  | cons k w ih =>
    rw [List.foldl_cons]
    have e : push g k = g ++ [k] := by
      have hk := hw.nz k (by simp)
      rcases List.eq_nil_or_concat g with rfl | ⟨g', l, rfl⟩
      · rw [push_nil, if_neg hk]; rfl
      · rw [List.concat_eq_append] at *
        rw [push_app]
        have : l.1 ≠ k.1 := hw.alt g' l k w (by simp)
        rw [if_neg this, if_neg hk]
    rw [e, ih (by simpa using hw)]
    simp
theorem red_rd {w : List Lk} (h : Rdc w) : red w = w := by
  have := fold_app (g := []) (w := w) (by simpa using h)
  simpa [red] using this
theorem fold_push {g r : List Lk} (hg : Rdc g) (hr : Rdc r) (k : Lk) : (push r k).foldl push g = push (r.foldl push g) k := by
  rcases List.eq_nil_or_concat r with rfl | ⟨r', l, rfl⟩
  · rw [push_nil]
    split
    · rename_i h
      obtain ⟨p, s⟩ := k
      simp at h
      subst h
      simp
      exact (push0 hg p).symm
    · rfl
  · rw [List.concat_eq_append] at *
    rw [push_app]
    have hg' : Rdc (r'.foldl push g) := hg.fold r'
    obtain ⟨p, t⟩ := k
    by_cases hp : l.1 = p
    · have el : l = (p, l.2) := by rw [← hp]
      simp only [hp, if_true]
      rw [List.foldl_append, List.foldl_cons, List.foldl_nil]
      have e2 : push (push (r'.foldl push g) l) (p, t) = push (r'.foldl push g) (p, l.2 + t) := by
        rw [el]
        exact push2 hg' p l.2 t
      rw [e2]
      by_cases hs : l.2 + t = 0
      · rw [if_pos hs, hs, push0 hg']
      · rw [if_neg hs, List.foldl_append]
        rfl
    · simp only [hp, if_false]
      by_cases ht : t = 0
      · subst ht
        rw [if_pos rfl, push0 (hg.fold _)]
      · rw [if_neg ht, List.foldl_append]
        rfl
theorem fold_red {g : List Lk} (hg : Rdc g) (w : List Lk) : w.foldl push g = (red w).foldl push g := by
  have key : ∀ (w r : List Lk), Rdc r → w.foldl push (r.foldl push g) = (w.foldl push r).foldl push g := by
    intro w
    induction w with
    | nil => intro r _; rfl
    | cons k w ih =>
      intro r hr
      rw [List.foldl_cons, List.foldl_cons, ← ih _ (hr.pushR k), fold_push hg hr]
  exact key w [] rd_nil
theorem red_app (u w : List Lk) : red (u ++ w) = (red w).foldl push (red u) := by
  unfold red
  rw [List.foldl_append]
  exact fold_red (rd_red u) w
theorem red_congr {u u' w w' : List Lk} (h : red u = red u') (h' : red w = red w') : red (u ++ w) = red (u' ++ w') := by rw [red_app, red_app, h, h']
theorem red_red (w : List Lk) : red (red w) = red w := red_rd (rd_red w)
theorem red_app_red (u w : List Lk) : red (u ++ w) = red (red u ++ red w) := red_congr (red_red u).symm (red_red w).symm
/-- two neighbours on one part -/
theorem red_two (p : Pt) (s t : Int) : red [(p, s), (p, t)] = red [(p, s + t)] := by
  show push (push [] (p, s)) (p, t) = push [] (p, s + t)
  exact push2 rd_nil p s t
theorem red_zero (p : Pt) : red [(p, 0)] = [] := rfl
theorem red_inv1 (l : Lk) : red [l, inv l] = [] := by
  have := red_two l.1 l.2 (-l.2)
  rw [Int.add_right_neg] at this
  exact this
theorem red_inv2 (l : Lk) : red [inv l, l] = [] := by
  have := red_two l.1 (-l.2) l.2
  rw [Int.add_left_neg] at this
  exact this
theorem red_cancel (u a b w : List Lk) (h : red (a ++ b) = []) : red (u ++ a ++ b ++ w) = red (u ++ w) := by
  rw [List.append_assoc u a b]
  refine red_congr ?_ rfl
  rw [red_app, h]
  show red u = red u
  rfl
theorem red_undone : ∀ (u : List Lk), red (u ++ u.reverse.map inv) = []
  | [] => rfl
  | l :: u => by
    have e : (l :: u) ++ (l :: u).reverse.map inv = [l] ++ (u ++ u.reverse.map inv) ++ [inv l] := by simp
    rw [e]
    have : red ([l] ++ (u ++ u.reverse.map inv) ++ [inv l]) = red ([l] ++ [] ++ [inv l]) := red_congr (red_congr rfl (red_undone u)) rfl
    rw [this]
    exact red_inv1 l
theorem inv_inv (l : Lk) : inv (inv l) = l := by
  unfold inv
  simp
theorem undone_undone (u : List Lk) : (u.reverse.map inv).reverse.map inv = u := by
  rw [← List.map_reverse, List.reverse_reverse, List.map_map]
  conv => rhs; rw [← List.map_id u]
  refine List.map_congr_left fun l _ => inv_inv l
theorem red_undone' (u : List Lk) : red (u.reverse.map inv ++ u) = [] := by
  have := red_undone (u.reverse.map inv)
  rw [undone_undone] at this
  exact this
/-! ### round-reduced -/
def cyc (r : List Lk) : List Lk := (rndP r.length r []).1
theorem rndP_fuel : ∀ (n m : Nat) (r a a' : List Lk), r.length ≤ n → r.length ≤ m → (rndP n r a).1 = (rndP m r a').1 := by
  intro n
  induction n with
  | zero =>
    intro m r a a' h _
    have : r = [] := List.length_eq_zero_iff.mp (by omega)
    subst this
    rw [rndP_short (by simp), rndP_short (by simp)]
  | succ n ih =>
    intro m r a a' h h'
    cases r with
    | nil => rw [rndP_short (by simp), rndP_short (by simp)]
    | cons f r =>
      rcases List.eq_nil_or_concat r with rfl | ⟨r', l, rfl⟩
      · rw [rndP_short (by simp), rndP_short (by simp)]
      · rw [List.concat_eq_append] at *
        cases m with
        | zero => simp at h'
        | succ m =>
          rw [rndP_app, rndP_app]
          simp at h h'
          split
          · refine ih m _ _ _ ?_ ?_
            · split <;> (try rw [List.length_cons]) <;> omega
            · split <;> (try rw [List.length_cons]) <;> omega
          · rfl
theorem cyc_step {f l : Lk} {m : List Lk} (h : f.1 = l.1) : cyc (f :: (m ++ [l])) = cyc (if l.2 + f.2 = 0 then m else (l.1, l.2 + f.2) :: m) := by
  unfold cyc
  have e : (f :: (m ++ [l])).length = m.length + 1 + 1 := by simp
  rw [e, rndP_app, if_pos h]
  refine rndP_fuel _ _ _ _ _ ?_ (Nat.le_refl _)
  split <;> simp
theorem cyc_stop {f l : Lk} {m : List Lk} (h : f.1 ≠ l.1) : cyc (f :: (m ++ [l])) = f :: (m ++ [l]) := by
  unfold cyc
  have e : (f :: (m ++ [l])).length = m.length + 1 + 1 := by simp
  rw [e, rndP_app, if_neg h]
theorem cyc_short {r : List Lk} (h : r.length ≤ 1) : cyc r = r := by
  unfold cyc
  rw [rndP_short h]
theorem rounded_cyc (w : List Lk) : (rounded' w).1 = cyc (red w) := rndP_fuel _ _ _ _ _ (red_le w) (Nat.le_refl _)
/-- ahead -/
def pushL (x : Lk) : List Lk → List Lk
  | [] => if x.2 = 0 then [] else [x]
  | y :: r => if y.1 = x.1 then (if x.2 + y.2 = 0 then r else (x.1, x.2 + y.2) :: r) else if x.2 = 0 then y :: r else x :: y :: r
theorem rd_cons {x y : Lk} {r : List Lk} (h : Rdc (y :: r)) (hx : x.2 ≠ 0) (hp : x.1 ≠ y.1) : Rdc (x :: y :: r) := by
  refine ⟨fun z hz => ?_, fun a u v b e => ?_⟩
  · rcases List.mem_cons.mp hz with rfl | hz
    · exact hx
    · exact h.nz z hz
  · cases a with
    | nil =>
      simp at e
      obtain ⟨e1, e2, e3⟩ := e
      subst e1 e2
      exact hp
    | cons z a =>
      simp at e
      exact h.alt a u v b e.2
theorem red_pushL {r : List Lk} (h : Rdc r) (x : Lk) : red (x :: r) = pushL x r := by
  obtain ⟨p, s⟩ := x
  cases r with
  | nil => rfl
  | cons y r =>
    obtain ⟨q, t⟩ := y
    unfold pushL
    by_cases hp : q = p
    · subst hp
      simp only [if_true]
      have e : red ((q, s) :: (q, t) :: r) = red ((q, s + t) :: r) := by
        have : red ([(q, s), (q, t)] ++ r) = red ([(q, s + t)] ++ r) := red_congr (red_two q s t) rfl
        simpa using this
      rw [e]
      have hr : Rdc r := Rdc.right (a := [(q, t)]) (by simpa using h)
      by_cases hs : s + t = 0
      · rw [if_pos hs, hs]
        have : red ([(q, 0)] ++ r) = red ([] ++ r) := red_congr rfl rfl
        rw [show (q, 0) :: r = [(q, 0)] ++ r from rfl, this]
        exact red_rd hr
      · rw [if_neg hs]
        refine red_rd ?_
        cases r with
        | nil => exact rd_one hs
        | cons z r => exact rd_cons hr hs (h.alt [] (q, t) z r rfl)
    · simp only [hp, if_false]
      by_cases hs : s = 0
      · subst hs
        rw [if_pos rfl]
        have : red ([(p, 0)] ++ (q, t) :: r) = red ([] ++ (q, t) :: r) := red_congr rfl rfl
        rw [show (p, (0 : Int)) :: (q, t) :: r = [(p, 0)] ++ (q, t) :: r from rfl, this]
        exact red_rd h
      · rw [if_neg hs]
        exact red_rd (rd_cons h hs fun z => hp z.symm)
theorem perm_end (x : Lk) (m : List Lk) : (m ++ [x]).Perm (x :: m) := List.perm_append_singleton x m
/-- a reduced word with unlike ends -/
theorem cyc_ends {r : List Lk} (h : ∀ f m l, r = f :: (m ++ [l]) → f.1 ≠ l.1) : cyc r = r := by
  cases r with
  | nil => exact cyc_short (by simp)
  | cons f r =>
    rcases List.eq_nil_or_concat r with rfl | ⟨m, l, rfl⟩
    · exact cyc_short (by simp)
    · rw [List.concat_eq_append] at *
      exact cyc_stop (h f m l rfl)
theorem cyc_turn {r : List Lk} (h : Rdc r) (x : Lk) : (cyc (push r x)).Perm (cyc (pushL x r)) := by
  obtain ⟨p, s⟩ := x
  cases r with
  | nil => exact .refl _
  | cons y r =>
    obtain ⟨q, t⟩ := y
    have ht : t ≠ 0 := h.nz (q, t) (by simp)
    rcases List.eq_nil_or_concat r with rfl | ⟨m, l, rfl⟩
    · have e := push_app [] (q, t) (p, s)
      rw [List.nil_append] at e
      rw [e]
      unfold pushL
      by_cases hp : q = p
      · simp only [hp, if_true]
        rw [Int.add_comm t s]
        exact .refl _
      · simp only [hp, if_false]
        by_cases hs : s = 0
        · rw [if_pos hs, if_pos hs]
        · rw [if_neg hs, if_neg hs]
          have e1 := cyc_stop (f := (q, t)) (l := (p, s)) (m := []) hp
          have e2 := cyc_stop (f := (p, s)) (l := (q, t)) (m := []) (fun z => hp z.symm)
          simp only [List.nil_append, List.singleton_append] at e1 e2 ⊢
          rw [e1, e2]
          exact perm_end (p, s) [(q, t)]
    · rw [List.concat_eq_append] at *
      obtain ⟨o, u⟩ := l
      have hu : u ≠ 0 := h.nz (o, u) (by simp)
      have e := push_app ((q, t) :: m) (o, u) (p, s)
      rw [List.cons_append] at e
      rw [e]
      have eL : pushL (p, s) ((q, t) :: (m ++ [(o, u)])) = if q = p then (if s + t = 0 then m ++ [(o, u)] else (p, s + t) :: (m ++ [(o, u)])) else if s = 0 then (q, t) :: (m ++ [(o, u)]) else (p, s) :: (q, t) :: (m ++ [(o, u)]) := rfl
      rw [eL]
      by_cases hq : q = p
      · subst hq
        simp only [if_true]
        by_cases ho : o = q
        · subst ho
          simp only [if_true]
          have hm : m ≠ [] := fun z => by
            subst z
            exact h.alt [] (o, t) (o, u) [] rfl rfl
          -- the ends of m are on other parts
          have last : ∀ m' z, m = m' ++ [z] → z.1 ≠ o := fun m' z e => h.alt ((o, t) :: m') z (o, u) [] (by rw [e]; simp)
          have first : ∀ z m', m = z :: m' → o ≠ z.1 := fun z m' e => h.alt [] (o, t) z (m' ++ [(o, u)]) (by rw [e]; simp)
          have c1 : ∀ v : Int, cyc ((o, v) :: m) = (o, v) :: m := fun v => by
            refine cyc_ends fun f m' l e => ?_
            simp at e
            obtain ⟨e1, e2⟩ := e
            subst e1
            exact fun z => last m' l e2 z.symm
          have c2 : ∀ v : Int, cyc (m ++ [(o, v)]) = m ++ [(o, v)] := fun v => by
            refine cyc_ends fun f m' l e => ?_
            cases m with
            | nil => exact absurd rfl hm
            | cons z m2 =>
              simp at e
              obtain ⟨e1, e2, e4⟩ := e
              subst e1 e4
              exact fun w => first z m2 rfl w.symm
          by_cases h1 : u + s = 0
          · rw [if_pos h1, c1]
            by_cases h2 : s + t = 0
            · rw [if_pos h2, c2]
              have : u = t := by omega
              subst this
              exact (perm_end _ _).symm
            · rw [if_neg h2]
              have := cyc_step (f := (o, s + t)) (l := (o, u)) (m := m) rfl
              rw [this]
              simp only
              rw [if_neg (by omega), show u + (s + t) = t by omega, c1]
          · rw [if_neg h1]
            have := cyc_step (f := (o, t)) (l := (o, u + s)) (m := m) rfl
            rw [List.cons_append, this]
            simp only
            by_cases h2 : s + t = 0
            · rw [if_pos h2, if_neg (by omega), show u + s + t = u by omega, c1, c2]
              exact (perm_end _ _).symm
            · rw [if_neg h2]
              have := cyc_step (f := (o, s + t)) (l := (o, u)) (m := m) rfl
              rw [this]
              simp only
              rw [show u + s + t = u + (s + t) by omega]
        · simp only [ho, if_false]
          by_cases hs : s = 0
          · subst hs
            rw [if_pos rfl, Int.zero_add, if_neg ht]
          · rw [if_neg hs]
            have := cyc_step (f := (q, t)) (l := (q, s)) (m := m ++ [(o, u)]) rfl
            simp only [List.append_assoc, List.cons_append] at this ⊢
            rw [this]
      · simp only [hq, if_false]
        by_cases ho : o = p
        · subst ho
          simp only [if_true]
          by_cases hs : s = 0
          · subst hs
            rw [if_pos rfl, Int.add_zero, if_neg hu]
            exact .refl _
          · rw [if_neg hs]
            have := cyc_step (f := (o, s)) (l := (o, u)) (m := (q, t) :: m) rfl
            simp only [List.cons_append] at this ⊢
            rw [this]
            by_cases h1 : u + s = 0
            · rw [if_pos h1, if_pos h1]
            · rw [if_neg h1, if_neg h1]
              have c1 : cyc ((q, t) :: (m ++ [(o, u + s)])) = (q, t) :: (m ++ [(o, u + s)]) := cyc_stop hq
              have c2 : cyc ((o, u + s) :: (q, t) :: m) = (o, u + s) :: (q, t) :: m := by
                refine cyc_ends fun f m' l e => ?_
                simp at e
                obtain ⟨e1, e2⟩ := e
                subst e1
                cases m' with
                | nil =>
                  simp at e2
                  obtain ⟨e2, e3⟩ := e2
                  subst e2
                  exact fun z => hq z.symm
                | cons z m' =>
                  simp at e2
                  obtain ⟨e2, e3⟩ := e2
                  subst e3
                  have := h.alt ((q, t) :: m') l (o, u) [] (by simp)
                  exact fun z => this z.symm
              rw [c1, c2]
              exact perm_end (o, u + s) ((q, t) :: m)
        · simp only [ho, if_false]
          by_cases hs : s = 0
          · rw [if_pos hs, if_pos hs]
          · rw [if_neg hs, if_neg hs]
            have c1 : cyc ((q, t) :: ((m ++ [(o, u)]) ++ [(p, s)])) = (q, t) :: ((m ++ [(o, u)]) ++ [(p, s)]) := cyc_stop hq
            have c2 : cyc ((p, s) :: (((q, t) :: m) ++ [(o, u)])) = (p, s) :: (((q, t) :: m) ++ [(o, u)]) := cyc_stop (fun z => ho z.symm)
            simp only [List.cons_append, List.append_assoc] at c1 c2 ⊢
            rw [c1, c2]
            have := perm_end (p, s) ((q, t) :: (m ++ [(o, u)]))
            simpa using this
/-- what turning keeps -/
abbrev Cy (w : List Lk) : List Lk := (rounded' w).1
theorem Cy_red {u w : List Lk} (h : red u = red w) : Cy u = Cy w := by
  show (rounded' u).1 = (rounded' w).1
  rw [rounded_cyc, rounded_cyc, h]
theorem Cy_one (x : Lk) (w : List Lk) : (Cy (w ++ [x])).Perm (Cy (x :: w)) := by
  show (rounded' (w ++ [x])).1.Perm (rounded' (x :: w)).1
  rw [rounded_cyc, rounded_cyc]
  have e1 : red (w ++ [x]) = push (red w) x := by
    unfold red
    rw [List.foldl_append]
    rfl
  have e2 : red (x :: w) = pushL x (red w) := by
    rw [← red_pushL (rd_red w)]
    exact red_congr (u := [x]) (u' := [x]) rfl (red_red w).symm
  rw [e1, e2]
  exact cyc_turn (rd_red w) x
theorem Cy_turn : ∀ (u w : List Lk), (Cy (u ++ w)).Perm (Cy (w ++ u))
  | [], w => by rw [List.append_nil]; exact .refl _
  | x :: u, w => by
    have h1 := Cy_one x (u ++ w)
    have h2 := Cy_turn u (w ++ [x])
    simp only [List.append_assoc, List.cons_append, List.nil_append] at h1 h2 ⊢
    exact h1.symm.trans h2
theorem Cy_outer (u w : List Lk) : (Cy (u ++ w ++ u.reverse.map inv)).Perm (Cy w) := by
  have h1 := Cy_turn u (w ++ u.reverse.map inv)
  rw [← List.append_assoc] at h1
  refine h1.trans ?_
  have : red (w ++ u.reverse.map inv ++ u) = red w := by
    have := red_cancel w (u.reverse.map inv) u [] (red_undone' u)
    simpa using this
  rw [Cy_red this]
theorem fwd_perm {u w : List Lk} (h : u.Perm w) : fwd u = fwd w := by
  unfold fwd
  exact h.all_eq
theorem fwd_iff {w : List Lk} : fwd w = true ↔ ∀ x ∈ w, 0 ≤ x.2 := by
  unfold fwd
  rw [List.all_eq_true]
  simp
theorem cyc_fwd : ∀ (n : Nat) (r a : List Lk), fwd r = true → fwd (rndP n r a).1 = true := by
  intro n
  induction n with
  | zero => intro r a h; exact h
  | succ n ih =>
    intro r a h
    cases r with
    | nil => exact h
    | cons f r =>
      rcases List.eq_nil_or_concat r with rfl | ⟨m, l, rfl⟩
      · exact h
      · rw [List.concat_eq_append] at *
        rw [rndP_app]
        split
        · refine ih _ _ ?_
          have h := fwd_iff.mp h
          have hf := h f (by simp)
          have hl := h l (by simp)
          split
          · exact fwd_iff.mpr fun x hx => h x (by simp [hx])
          · refine fwd_iff.mpr fun x hx => ?_
            rcases List.mem_cons.mp hx with rfl | hx
            · show 0 ≤ l.2 + f.2
              omega
            · exact h x (by simp [hx])
        · exact h
theorem Cy_fwd (w : List Lk) (h : fwd (red w) = true) : fwd (Cy w) = true := cyc_fwd _ _ _ h
/-! ### rows repeated -/
abbrev rep (n : Nat) (w : List Lk) : List Lk := (List.replicate n w).flatten
theorem rep_succ (n : Nat) (w : List Lk) : rep (n + 1) w = w ++ rep n w := by
  unfold rep
  rw [List.replicate_succ, List.flatten_cons]
theorem rep_congr {u w : List Lk} (h : red u = red w) : ∀ n, red (rep n u) = red (rep n w)
  | 0 => rfl
  | n + 1 => by
    rw [rep_succ, rep_succ]
    exact red_congr h (rep_congr h n)
theorem rep_turn (u w : List Lk) : ∀ n, rep n (u ++ w) ++ u = u ++ rep n (w ++ u)
  | 0 => by simp [rep]
  | n + 1 => by
    rw [rep_succ, rep_succ, List.append_assoc, rep_turn u w n]
    simp
theorem Cy_rep_turn (u w : List Lk) (n : Nat) : (Cy (rep n (u ++ w))).Perm (Cy (rep n (w ++ u))) := by
  cases n with
  | zero => exact .refl _
  | succ n =>
    have h1 := Cy_turn u (w ++ rep n (u ++ w))
    have e1 : rep (n + 1) (u ++ w) = u ++ (w ++ rep n (u ++ w)) := by rw [rep_succ, List.append_assoc]
    have e2 : w ++ rep n (u ++ w) ++ u = rep (n + 1) (w ++ u) := by
      rw [List.append_assoc, rep_turn u w n, rep_succ, List.append_assoc]
    rw [e1, ← e2]
    exact h1
theorem rep_one (p : Pt) (t : Int) : ∀ n : Nat, red (rep n [(p, t)]) = red [(p, n * t)]
  | 0 => by simp [rep, red, push]
  | n + 1 => by
    rw [rep_succ]
    have : red ([(p, t)] ++ rep n [(p, t)]) = red ([(p, t)] ++ [(p, n * t)]) := red_congr rfl (rep_one p t n)
    rw [this]
    have := red_two p t (n * t)
    rw [show ([(p, t)] ++ [(p, (n : Int) * t)] : List Lk) = [(p, t), (p, n * t)] from rfl, this]
    congr 3
    rw [Int.natCast_add, Int.add_mul, Int.add_comm]
    simp
/-- words put behind each other -/
theorem Rdc.app {u w : List Lk} (h1 : Rdc u) (h2 : Rdc w) (h : ∀ u' x y w', u = u' ++ [x] → w = y :: w' → x.1 ≠ y.1) : Rdc (u ++ w) := by
  induction w generalizing u with
  | nil => simpa using h1
  | cons k w ih =>
    have := ih (u := u ++ [k]) (h1.snoc (h2.nz k (by simp)) fun g' m e => h g' m k w e rfl) (Rdc.right (a := [k]) (by simpa using h2)) fun u' x y w' e1 e2 => by
      obtain ⟨e3, e4⟩ := List.append_inj' e1 rfl
      simp at e4
      subst e4
      exact h2.alt [] k y w' (by rw [e2]; rfl)
    simpa using this
theorem rep_long {f l : Lk} {m : List Lk} (h : Rdc (f :: (m ++ [l]))) (hp : f.1 ≠ l.1) : ∀ n : Nat, 1 ≤ n → ∃ m', rep n (f :: (m ++ [l])) = f :: (m' ++ [l]) ∧ Rdc (f :: (m' ++ [l])) ∧ (fwd (f :: (m' ++ [l])) = fwd (f :: (m ++ [l]))) := by
  intro n hn
  induction n with
  | zero => omega
  | succ n ih =>
    cases n with
    | zero => exact ⟨m, by simp [rep], h, rfl⟩
    | succ n =>
      obtain ⟨m', e1, e2, e3⟩ := ih (by omega)
      rw [rep_succ, e1]
      refine ⟨m ++ [l] ++ f :: m', by simp, ?_, ?_⟩
      · have := h.app e2 fun u' x y w' g1 g2 => by
          have g3 : (f :: m) ++ [l] = u' ++ [x] := by simpa using g1
          obtain ⟨_, g4⟩ := List.append_inj' g3 rfl
          simp at g2 g4
          rw [← g4, ← g2.1]
          exact fun z => hp z.symm
        simpa using this
      · have : fwd (f :: (m ++ [l]) ++ (f :: (m' ++ [l]))) = (fwd (f :: (m ++ [l])) && fwd (f :: (m' ++ [l]))) := by
          unfold fwd
          rw [List.all_append]
        have e4 : f :: (m ++ [l] ++ f :: m' ++ [l]) = f :: (m ++ [l]) ++ (f :: (m' ++ [l])) := by simp
        rw [e4, this, e3, Bool.and_self]
theorem Rdc.inner {f l : Lk} {m : List Lk} (h : Rdc (f :: (m ++ [l]))) : Rdc m := Rdc.mid (a := [f]) (b := [l]) (by simpa using h)
/-- what a cyclic step leaves is reduced -/
theorem Rdc.cstep {f l : Lk} {m : List Lk} (h : Rdc (f :: (m ++ [l]))) (hp : f.1 = l.1) : Rdc (if l.2 + f.2 = 0 then m else (l.1, l.2 + f.2) :: m) := by
  split
  · exact h.inner
  · rename_i hs
    cases m with
    | nil => exact rd_one hs
    | cons z m =>
      refine rd_cons h.inner hs ?_
      rw [← hp]
      exact h.alt [] f z (m ++ [l]) (by simp)
theorem cstep_red {f l : Lk} {m : List Lk} (h : Rdc (f :: (m ++ [l]))) (hp : f.1 = l.1) : red ([l] ++ (f :: m)) = if l.2 + f.2 = 0 then m else (l.1, l.2 + f.2) :: m := by
  have hr : Rdc (f :: m) := Rdc.left (b := [l]) (by simpa using h)
  have := red_pushL hr l
  rw [show [l] ++ f :: m = l :: f :: m from rfl, this]
  show (if f.1 = l.1 then (if l.2 + f.2 = 0 then m else (l.1, l.2 + f.2) :: m) else if l.2 = 0 then f :: m else l :: f :: m) = _
  rw [if_pos hp]
theorem rep_cyc (n : Nat) (hn : 1 ≤ n) : ∀ (k : Nat) (r : List Lk), r.length ≤ k → Rdc r → fwd (Cy (rep n r)) = fwd (cyc r) := by
  intro k
  induction k with
  | zero =>
    intro r hk hr
    have : r = [] := List.length_eq_zero_iff.mp (by omega)
    subst this
    have e : red (rep n []) = red [] := by simp [rep]
    rw [Cy_red e]
    rfl
  | succ k ih =>
    intro r hk hr
    cases r with
    | nil =>
      have e : red (rep n []) = red [] := by simp [rep]
      rw [Cy_red e]
      rfl
    | cons f r =>
      rcases List.eq_nil_or_concat r with rfl | ⟨m, l, rfl⟩
      · obtain ⟨p, t⟩ := f
        have ht : t ≠ 0 := hr.nz (p, t) (by simp)
        rw [Cy_red (rep_one p t n), cyc_short (by simp)]
        have e : red [(p, (n : Int) * t)] = [(p, n * t)] := by
          have hz : (n : Int) * t ≠ 0 := Int.mul_ne_zero (by omega) ht
          exact red_rd (rd_one hz)
        show fwd (rounded' [(p, (n : Int) * t)]).1 = _
        rw [rounded_cyc, e, cyc_short (by simp)]
        unfold fwd
        simp only [List.all_cons, List.all_nil, Bool.and_true]
        refine decide_eq_decide.mpr ⟨fun h => ?_, fun h => Int.mul_nonneg (by omega) h⟩
        apply Classical.byContradiction
        intro hh
        have h3 : (n : Int) * t < 0 := Int.mul_neg_of_pos_of_neg (by omega) (by omega)
        omega
      · rw [List.concat_eq_append] at *
        by_cases hp : f.1 = l.1
        · rw [cyc_step hp]
          have h1 := Cy_rep_turn (f :: m) [l] n
          have e1 : f :: m ++ [l] = f :: (m ++ [l]) := by simp
          rw [e1] at h1
          rw [fwd_perm h1]
          have h2 := rep_congr (u := [l] ++ (f :: m)) (w := if l.2 + f.2 = 0 then m else (l.1, l.2 + f.2) :: m) (by rw [cstep_red hr hp]; exact (red_rd (hr.cstep hp)).symm) n
          rw [Cy_red h2]
          refine ih _ ?_ (hr.cstep hp)
          simp at hk
          split <;> (try rw [List.length_cons]) <;> omega
        · rw [cyc_stop hp]
          obtain ⟨m', e1, e2, e3⟩ := rep_long hr hp n hn
          rw [e1]
          show fwd (rounded' (f :: (m' ++ [l]))).1 = _
          rw [rounded_cyc, red_rd e2, cyc_stop hp, e3]
theorem Cy_rep (w : List Lk) (n : Nat) (hn : 1 ≤ n) : fwd (Cy (rep n w)) = fwd (Cy w) := by
  have h := rep_congr (red_red w).symm n
  rw [Cy_red h, rep_cyc n hn _ (red w) (Nat.le_refl _) (rd_red w)]
  show _ = fwd (rounded' w).1
  rw [rounded_cyc]
end W86
end
section
set_option Elab.async false
set_option linter.all false
set_option maxRecDepth 100000
set_option maxHeartbeats 4000000
set_option exponentiation.threshold 100000
/-! WF: powers of 2, matrices, flows. -/
namespace W86
open PySem PySem.Spec PyProof.Rows L2 Evl DL
open He (ga ma)
open He5 (wf)
theorem Sz.mul {n m : Nat} {x y : Rat} (h : Sz n x) (h' : Sz m y) : Sz (n + m) (x * y) := by
  have hd : x.den * y.den ≠ 0 := Nat.mul_ne_zero x.den_nz y.den_nz
  rw [Rat.mul_def']
  refine ⟨?_, ?_⟩
  · rw [Rat.num_mkRat, if_neg hd]
    refine Nat.lt_of_le_of_lt (Int.natAbs_ediv_le_natAbs _ _) ?_
    rw [Int.natAbs_mul, Nat.pow_add]
    exact Nat.mul_lt_mul'' h.1 h'.1
  · rw [Rat.den_mkRat, if_neg hd]
    refine Nat.lt_of_le_of_lt (Nat.div_le_self _ _) ?_
    rw [Nat.pow_add]
    exact Nat.mul_lt_mul'' h.2 h'.2
theorem Sz.add {n m : Nat} {x y : Rat} (h : Sz n x) (h' : Sz m y) : Sz (n + m + 1) (x + y) := by
  have hd : x.den * y.den ≠ 0 := Nat.mul_ne_zero x.den_nz y.den_nz
  have e1 : x.num.natAbs * y.den < 2 ^ (n + m) := by rw [Nat.pow_add]; exact Nat.mul_lt_mul'' h.1 h'.2
  have e2 : y.num.natAbs * x.den < 2 ^ (n + m) := by rw [Nat.pow_add, Nat.mul_comm (2 ^ n)]; exact Nat.mul_lt_mul'' h'.1 h.2
  rw [Rat.add_def']
  refine ⟨?_, ?_⟩
  · rw [Rat.num_mkRat, if_neg hd]
    refine Nat.lt_of_le_of_lt (Int.natAbs_ediv_le_natAbs _ _) ?_
    refine Nat.lt_of_le_of_lt (Int.natAbs_add_le _ _) ?_
    rw [Int.natAbs_mul, Int.natAbs_mul, Int.natAbs_natCast, Int.natAbs_natCast, Nat.pow_succ]
    omega
  · rw [Rat.den_mkRat, if_neg hd]
    refine Nat.lt_of_le_of_lt (Nat.div_le_self _ _) ?_
    have : x.den * y.den < 2 ^ (n + m) := by rw [Nat.pow_add]; exact Nat.mul_lt_mul'' h.2 h'.2
    rw [Nat.pow_succ]
    omega
theorem sz2 (n : Nat) : Sz (n + 1) ((2 : Rat) ^ n) := by
  refine ⟨?_, ?_⟩
  · rw [Rat.num_pow]
    show ((2 : Int) ^ n).natAbs < 2 ^ (n + 1)
    rw [Int.natAbs_pow]
    exact Nat.pow_lt_pow_right (by decide) (by omega)
  · rw [Rat.den_pow]
    show (1 : Nat) ^ n < 2 ^ (n + 1)
    rw [Nat.one_pow]
    exact Nat.one_lt_two_pow (by omega)
theorem pow2_add (a b : Nat) : (2 : Rat) ^ (a + b) = (2 : Rat) ^ a * (2 : Rat) ^ b := by
  induction b with
  | zero => rw [Nat.add_zero, Rat.pow_zero, Rat.mul_one]
  | succ b ih => rw [← Nat.add_assoc, Rat.pow_succ, Rat.pow_succ, ih, Rat.mul_assoc]
section
variable {P : Program} {w : World} {K : Fr} {mg : Str → Option Value} {base : Heap}
def ct_powered (K : Fr) : Ct := ⟨Nat, fun k => [num 2, .int k], fun k => k ≤ 4000, fun k => .fr (num ((2 : Rat) ^ k))⟩
theorem ok_powered (T : Tx K mg) {fd : FuncData} (F : L2.FunD K a_powered.name a_powered.qual a_powered.params a_powered.body a_powered.scope [] [] (ga K "powered") fd) : FnOk P w K mg base CX0 3 (ga K "powered") fd ["x", "k"] ((ct_powered K).sp K) := by
  refine ct_ok F sc_powered (fun a => rfl) fun cdv A outer s H E hr => ?_
  refine ⟨_, _, (pdss_cons (pds_set 2 (pd_kon T.k_ONE) sc_powered.nd)
  (pdss_cons (pds_set 3 (pd_name 0) sc_powered.nd)
  (pdss_cons (pds_while PassesOwn.never (pdt_cmp op_gt vo_cmp (pd_name 1) pd_int (nomark _))
  (pdss_cons (pds_if (pdt_cmp (op_eqD hr.units) vo_eq (pd_op op_mod vo_mod (pd_name 1) pd_int) pd_int (nomark _)) (pdss_one (pds_set 2 (pd_call (d_product_of T) (hr.mono (by decide)) (pda_cons (pd_name 2) (pda_cons (pd_name 3) pda_nil))) sc_powered.nd)) pdss_nil)
  (pdss_cons (pds_set 1 (pd_op op_fdivW vo_fdiv (pd_name 1) pd_int) sc_powered.nd)
  (pdss_one (pds_if (pdt_cmp op_gt vo_cmp (pd_name 1) pd_int (nomark _)) (pdss_one (pds_set 3 (pd_call (d_product_of T) (hr.mono (by decide)) (pda_cons (pd_name 3) (pda_cons (pd_name 3) pda_nil))) sc_powered.nd)) pdss_nil)))))
  (pdss_one (pds_ret (pd_name 2)))))), ?_⟩
  rintro (k : Nat) (hk : k ≤ 4000)
  refine ⟨k + 1, ?_⟩
  refine whD_ind (n := k) (fun n ρ => ∃ a s : Nat, ρ = [.fr (num 2), .fr (.int n), .fr (num ((2 : Rat) ^ a)), .fr (num ((2 : Rat) ^ s))] ∧ a + s * n = k ∧ (n = 0 ∨ s ≤ k)) ⟨0, 1, ?_, by omega, by omega⟩ (by omega) ?_
  · show [_, _, Sl.fr oD, Sl.fr (num 2)] = [_, _, Sl.fr (num ((2 : Rat) ^ 0)), Sl.fr (num ((2 : Rat) ^ 1))]
    rw [Rat.pow_zero, Rat.pow_one]
    rfl
  · rintro n ρ ⟨a, s, rfl, e1, e2⟩ nx hn
    refine ite2 (fun h => ?_) (fun h => ?_)
    · have h : (0 : Int) < (n : Int) := of_decide_eq_true h
      have hdv : CDivW (n : Int) 2 := divS (by decide) (by decide)
      have hsn : s ≤ s * n := Nat.le_mul_of_pos_right s (by omega)
      refine ⟨by decide, ?_⟩
      refine ite2 (fun hm => ?_) (fun hm => ?_)
      · have hm : (n : Int) % 2 = 1 := of_decide_eq_true (eqI ▸ hm)
        refine ⟨((2 : Rat) ^ a, (2 : Rat) ^ s), rfl, ⟨a + 1, s + 1, sz2 a, sz2 s, by omega⟩, ?_⟩
        refine ⟨hdv, ?_⟩
        refine ite2 (fun h2 => ?_) (fun h2 => ?_)
        · have h2 : (0 : Int) < (n : Int) / 2 := of_decide_eq_true h2
          have hs : 2 * s ≤ k := by
            have : s * 2 ≤ s * n := Nat.mul_le_mul_left s (by omega)
            omega
          refine ⟨((2 : Rat) ^ s, (2 : Rat) ^ s), rfl, ⟨s + 1, s + 1, sz2 s, sz2 s, by omega⟩, ?_⟩
          refine hn (n / 2) _ (by omega) ⟨a + s, 2 * s, ?_, ?_, .inr hs⟩
          · show [_, Sl.fr (.int ((n : Int) / 2)), Sl.fr (num ((2 : Rat) ^ a * (2 : Rat) ^ s)), Sl.fr (num ((2 : Rat) ^ s * (2 : Rat) ^ s))] = _
            rw [← pow2_add s s, ← Nat.two_mul]
            rw [← pow2_add a s]
            rfl
          · have e : n = 2 * (n / 2) + 1 := by omega
            have e3 : s * n = s * (2 * (n / 2)) + s := by
              conv => lhs; rw [e, Nat.mul_add, Nat.mul_one]
            rw [show 2 * s * (n / 2) = s * (2 * (n / 2)) from by rw [Nat.mul_comm 2 s, Nat.mul_assoc]]
            omega
        · have h2 : ¬ (0 : Int) < (n : Int) / 2 := fun z => h2 (decide_eq_true z)
          have hn1 : n = 1 := by omega
          refine hn (n / 2) _ (by omega) ⟨a + s, s, ?_, ?_, .inl (by omega)⟩
          · show [_, Sl.fr (.int ((n : Int) / 2)), Sl.fr (num ((2 : Rat) ^ a * (2 : Rat) ^ s)), Sl.fr (num ((2 : Rat) ^ s))] = _
            rw [← pow2_add a s]
            rfl
          · subst hn1
            show a + s + s * (1 / 2) = k
            omega
      · have hm : ¬ (n : Int) % 2 = 1 := fun z => hm (by rw [eqI]; exact decide_eq_true z)
        refine ⟨hdv, ?_⟩
        refine ite2 (fun h2 => ?_) (fun h2 => ?_)
        · have h2 : (0 : Int) < (n : Int) / 2 := of_decide_eq_true h2
          have hs : 2 * s ≤ k := by
            have : s * 2 ≤ s * n := Nat.mul_le_mul_left s (by omega)
            omega
          refine ⟨((2 : Rat) ^ s, (2 : Rat) ^ s), rfl, ⟨s + 1, s + 1, sz2 s, sz2 s, by omega⟩, ?_⟩
          refine hn (n / 2) _ (by omega) ⟨a, 2 * s, ?_, ?_, .inr hs⟩
          · show [_, Sl.fr (.int ((n : Int) / 2)), Sl.fr (num ((2 : Rat) ^ a)), Sl.fr (num ((2 : Rat) ^ s * (2 : Rat) ^ s))] = _
            rw [← pow2_add s s, ← Nat.two_mul]
            rfl
          · have e : n = 2 * (n / 2) := by omega
            have e3 : s * n = s * (2 * (n / 2)) := by rw [← e]
            rw [show 2 * s * (n / 2) = s * (2 * (n / 2)) from by rw [Nat.mul_comm 2 s, Nat.mul_assoc]]
            omega
        · have h2 : ¬ (0 : Int) < (n : Int) / 2 := fun z => h2 (decide_eq_true z)
          have hn1 : n = 1 := by omega
          refine hn (n / 2) _ (by omega) ⟨a, s, ?_, ?_, .inl (by omega)⟩
          · show [_, Sl.fr (.int ((n : Int) / 2)), Sl.fr (num ((2 : Rat) ^ a)), Sl.fr (num ((2 : Rat) ^ s))] = _
            rfl
          · subst hn1
            omega
    · have h : ¬ (0 : Int) < (n : Int) := fun z => h (decide_eq_true z)
      have : n = 0 := by omega
      subst this
      have : a = k := by omega
      subst this
      rfl
theorem d_powered (T : Tx K mg) : Gd P w K mg base "powered" 3 [] ((ct_powered K).sp K) := by
  obtain ⟨fd, F⟩ := T.d_powered
  exact gd_of T.g_powered F.kp (F.bindsN fun _ _ _ _ _ _ us hl => match us, hl with | [_, _], _ => rfl) (ok_powered T F)
abbrev V2 := Rat × Rat
abbrev M2 := V2 × V2
def vD (v : V2) : D := .tup [num v.1, num v.2]
def mD (m : M2) : D := .tup [vD m.1, vD m.2]
def vadd (v u : V2) : V2 := (v.1 + u.1, v.2 + u.2)
def vmul (v : V2) (x : Rat) : V2 := (x * v.1, x * v.2)
def vdot (v u : V2) : Rat := v.1 * u.1 + v.2 * u.2
def mmul (X Y : M2) : M2 := ((vdot X.1 (Y.1.1, Y.2.1), vdot X.1 (Y.1.2, Y.2.2)), (vdot X.2 (Y.1.1, Y.2.1), vdot X.2 (Y.1.2, Y.2.2)))
def madd (X Y : M2) : M2 := (vadd X.1 Y.1, vadd X.2 Y.2)
def msc (X : M2) (x : Rat) : M2 := (vmul X.1 x, vmul X.2 x)
def Vs (n : Nat) (v : V2) : Prop := Sz n v.1 ∧ Sz n v.2
def Ms (n : Nat) (m : M2) : Prop := Vs n m.1 ∧ Vs n m.2
def ct_row_plus (K : Fr) : Ct := ⟨V2 × V2, fun a => [vD a.1, vD a.2], fun a => Two a.1.1 a.2.1 ∧ Two a.1.2 a.2.2, fun a => .fr (vD (vadd a.1 a.2))⟩
theorem ok_row_plus (T : Tx K mg) {fd : FuncData} (F : L2.FunD K a_row_plus.name a_row_plus.qual a_row_plus.params a_row_plus.body a_row_plus.scope [] [] (ga K "row_plus") fd) : FnOk P w K mg base CX0 3 (ga K "row_plus") fd ["v", "w"] ((ct_row_plus K).sp K) := by
  refine ct_ok F sc_row_plus (fun a => rfl) fun cdv A outer s H E hr => ?_
  refine ⟨_, _, (pdss_one (pds_ret (pd_callTy1 call_tuple_of vo_tupOf T.b_tuple (pd_lc [("k", 2)] 2 rfl sc_row_plus.nd (pdi_range1 T.b_range (pda_cons (pd_callB1 call_lenA vo_len T.b_len (pd_name 0)) pda_nil)) (fun _ _ _ _ _ => pdts_nil) (fun _ _ _ _ _ => (pd_call (d_plus T) (hr.mono (by decide)) (pda_cons (pd_ix ix_seq vo_ix (pd_name 0) (pd_name 2) (fun _ _ => rfl)) (pda_cons (pd_ix ix_seq vo_ix (pd_name 1) (pd_name 2) (fun _ _ => rfl)) pda_nil)))) (fun _ _ _ _ _ => pg_name (i := 2) sc_row_plus.nd rfl (by first | exact Or.inl rfl | exact Or.inr rfl)) (show blkC NN_row_plus (defScope s_row_plus) _ [("k", 2)] = true by decide +kernel))))), ?_⟩
  rintro ⟨v, u⟩ ⟨h1, h2⟩
  refine ⟨⟨show (2 : Int) ≤ 100000 by decide, show (-100000 : Int) ≤ 2 by decide⟩, ?_⟩
  refine ⟨(v.1, u.1), rfl, h1, show (0 : Nat) < 100000 by decide, ?_⟩
  refine ⟨(v.2, u.2), rfl, h2, show (1 : Nat) < 100000 by decide, ?_⟩
  rfl
theorem d_row_plus (T : Tx K mg) : Gd P w K mg base "row_plus" 3 [] ((ct_row_plus K).sp K) := by
  obtain ⟨fd, F⟩ := T.d_row_plus
  exact gd_of T.g_row_plus F.kp (F.bindsN fun _ _ _ _ _ _ us hl => match us, hl with | [_, _], _ => rfl) (ok_row_plus T F)
def ct_row_scaled (K : Fr) : Ct := ⟨V2 × Rat, fun a => [vD a.1, num a.2], fun a => Two a.2 a.1.1 ∧ Two a.2 a.1.2, fun a => .fr (vD (vmul a.1 a.2))⟩
theorem ok_row_scaled (T : Tx K mg) {fd : FuncData} (F : L2.FunD K a_row_scaled.name a_row_scaled.qual a_row_scaled.params a_row_scaled.body a_row_scaled.scope [] [] (ga K "row_scaled") fd) : FnOk P w K mg base CX0 3 (ga K "row_scaled") fd ["v", "x"] ((ct_row_scaled K).sp K) := by
  refine ct_ok F sc_row_scaled (fun a => rfl) fun cdv A outer s H E hr => ?_
  refine ⟨_, _, (pdss_one (pds_ret (pd_callTy1 call_tuple_of vo_tupOf T.b_tuple (pd_lc [("c", 2)] 2 rfl sc_row_scaled.nd (pdi_seq (pd_name 0)) (fun _ _ _ _ _ => pdts_nil) (fun _ _ _ _ _ => (pd_call (d_product_of T) (hr.mono (by decide)) (pda_cons (pd_name 1) (pda_cons (pd_name 2) pda_nil)))) (fun _ _ _ _ _ => pg_name (i := 2) sc_row_scaled.nd rfl (by first | exact Or.inl rfl | exact Or.inr rfl)) (show blkC NN_row_scaled (defScope s_row_scaled) _ [("c", 2)] = true by decide +kernel))))), ?_⟩
  rintro ⟨v, x⟩ ⟨h1, h2⟩
  refine ⟨(x, v.1), rfl, h1, show (0 : Nat) < 100000 by decide, ?_⟩
  refine ⟨(x, v.2), rfl, h2, show (1 : Nat) < 100000 by decide, ?_⟩
  rfl
theorem d_row_scaled (T : Tx K mg) : Gd P w K mg base "row_scaled" 3 [] ((ct_row_scaled K).sp K) := by
  obtain ⟨fd, F⟩ := T.d_row_scaled
  exact gd_of T.g_row_scaled F.kp (F.bindsN fun _ _ _ _ _ _ us hl => match us, hl with | [_, _], _ => rfl) (ok_row_scaled T F)
def ct_flipped (K : Fr) : Ct := ⟨M2, fun m => [mD m], fun _ => True, fun m => .fr (mD ((m.1.1, m.2.1), (m.1.2, m.2.2)))⟩
theorem ok_flipped (T : Tx K mg) {fd : FuncData} (F : L2.FunD K a_flipped.name a_flipped.qual a_flipped.params a_flipped.body a_flipped.scope [] [] (ga K "flipped") fd) : FnOk P w K mg base CX0 1 (ga K "flipped") fd ["X"] ((ct_flipped K).sp K) := by
  refine ct_ok F sc_flipped (fun a => rfl) fun cdv A outer s H E hr => ?_
  refine ⟨_, _, (pdss_one (pds_ret (pd_callTy1 call_tuple_of vo_tupOf T.b_tuple (pd_lc [("k", 1)] 1 rfl sc_flipped.nd (pdi_range1 T.b_range (pda_cons (pd_callB1 call_lenA vo_len T.b_len (pd_name 0)) pda_nil)) (fun _ _ _ _ _ => pdts_nil) (fun _ _ _ _ _ => (pd_callTy1 call_tuple_of vo_tupOf T.b_tuple (pd_lc [("line", 2)] 2 rfl sc_flipped.nd (pdi_seq (pd_name 0)) (fun _ _ _ _ _ => pdts_nil) (fun _ _ _ _ _ => (pd_ix ix_seq vo_ix (pd_name 2) (pd_name 1) (fun _ _ => rfl))) (fun _ _ _ _ _ => pg_name (i := 2) sc_flipped.nd rfl (by first | exact Or.inl rfl | exact Or.inr rfl)) (by kernel_rfl)))) (fun _ _ _ _ _ => pg_name (i := 1) sc_flipped.nd rfl (by first | exact Or.inl rfl | exact Or.inr rfl)) (show blkC NN_flipped (defScope s_flipped) _ [("k", 1)] = true by decide +kernel))))), ?_⟩
  rintro m _
  refine ⟨⟨show (2 : Int) ≤ 100000 by decide, show (-100000 : Int) ≤ 2 by decide⟩, ?_⟩
  refine ⟨show (0 : Nat) < 100000 by decide, show (1 : Nat) < 100000 by decide, show (0 : Nat) < 100000 by decide, ?_⟩
  refine ⟨show (0 : Nat) < 100000 by decide, show (1 : Nat) < 100000 by decide, show (1 : Nat) < 100000 by decide, ?_⟩
  rfl
theorem d_flipped (T : Tx K mg) : Gd P w K mg base "flipped" 1 [] ((ct_flipped K).sp K) := by
  obtain ⟨fd, F⟩ := T.d_flipped
  exact gd_of T.g_flipped F.kp (F.bindsN fun _ _ _ _ _ _ us hl => match us, hl with | [_], _ => rfl) (ok_flipped T F)
def ct_plus_matrix (K : Fr) : Ct := ⟨M2 × M2, fun a => [mD a.1, mD a.2], fun a => ∃ n m, Ms n a.1 ∧ Ms m a.2 ∧ n + m ≤ 8999, fun a => .fr (mD (madd a.1 a.2))⟩
theorem ok_plus_matrix (T : Tx K mg) {fd : FuncData} (F : L2.FunD K a_plus_matrix.name a_plus_matrix.qual a_plus_matrix.params a_plus_matrix.body a_plus_matrix.scope [] [] (ga K "plus_matrix") fd) : FnOk P w K mg base CX0 4 (ga K "plus_matrix") fd ["X", "Y"] ((ct_plus_matrix K).sp K) := by
  refine ct_ok F sc_plus_matrix (fun a => rfl) fun cdv A outer s H E hr => ?_
  refine ⟨_, _, (pdss_one (pds_ret (pd_callTy1 call_tuple_of vo_tupOf T.b_tuple (pd_lc [("k", 2)] 2 rfl sc_plus_matrix.nd (pdi_range1 T.b_range (pda_cons (pd_callB1 call_lenA vo_len T.b_len (pd_name 0)) pda_nil)) (fun _ _ _ _ _ => pdts_nil) (fun _ _ _ _ _ => (pd_call (d_row_plus T) (hr.mono (by decide)) (pda_cons (pd_ix ix_seq vo_ix (pd_name 0) (pd_name 2) (fun _ _ => rfl)) (pda_cons (pd_ix ix_seq vo_ix (pd_name 1) (pd_name 2) (fun _ _ => rfl)) pda_nil)))) (fun _ _ _ _ _ => pg_name (i := 2) sc_plus_matrix.nd rfl (by first | exact Or.inl rfl | exact Or.inr rfl)) (show blkC NN_plus_matrix (defScope s_plus_matrix) _ [("k", 2)] = true by decide +kernel))))), ?_⟩
  rintro ⟨X, Y⟩ ⟨n, m, h1, h2, h3⟩
  refine ⟨⟨show (2 : Int) ≤ 100000 by decide, show (-100000 : Int) ≤ 2 by decide⟩, ?_⟩
  refine ⟨(X.1, Y.1), rfl, ⟨⟨n, m, h1.1.1, h2.1.1, h3⟩, ⟨n, m, h1.1.2, h2.1.2, h3⟩⟩, show (0 : Nat) < 100000 by decide, ?_⟩
  refine ⟨(X.2, Y.2), rfl, ⟨⟨n, m, h1.2.1, h2.2.1, h3⟩, ⟨n, m, h1.2.2, h2.2.2, h3⟩⟩, show (1 : Nat) < 100000 by decide, ?_⟩
  rfl
theorem d_plus_matrix (T : Tx K mg) : Gd P w K mg base "plus_matrix" 4 [] ((ct_plus_matrix K).sp K) := by
  obtain ⟨fd, F⟩ := T.d_plus_matrix
  exact gd_of T.g_plus_matrix F.kp (F.bindsN fun _ _ _ _ _ _ us hl => match us, hl with | [_, _], _ => rfl) (ok_plus_matrix T F)
def ct_scaled_matrix (K : Fr) : Ct := ⟨M2 × Rat, fun a => [mD a.1, num a.2], fun a => ∃ n m, Ms n a.1 ∧ Sz m a.2 ∧ n + m ≤ 8999, fun a => .fr (mD (msc a.1 a.2))⟩
theorem ok_scaled_matrix (T : Tx K mg) {fd : FuncData} (F : L2.FunD K a_scaled_matrix.name a_scaled_matrix.qual a_scaled_matrix.params a_scaled_matrix.body a_scaled_matrix.scope [] [] (ga K "scaled_matrix") fd) : FnOk P w K mg base CX0 4 (ga K "scaled_matrix") fd ["X", "x"] ((ct_scaled_matrix K).sp K) := by
  refine ct_ok F sc_scaled_matrix (fun a => rfl) fun cdv A outer s H E hr => ?_
  refine ⟨_, _, (pdss_one (pds_ret (pd_callTy1 call_tuple_of vo_tupOf T.b_tuple (pd_lc [("line", 2)] 2 rfl sc_scaled_matrix.nd (pdi_seq (pd_name 0)) (fun _ _ _ _ _ => pdts_nil) (fun _ _ _ _ _ => (pd_call (d_row_scaled T) (hr.mono (by decide)) (pda_cons (pd_name 2) (pda_cons (pd_name 1) pda_nil)))) (fun _ _ _ _ _ => pg_name (i := 2) sc_scaled_matrix.nd rfl (by first | exact Or.inl rfl | exact Or.inr rfl)) (show blkC NN_scaled_matrix (defScope s_scaled_matrix) _ [("line", 2)] = true by decide +kernel))))), ?_⟩
  rintro ⟨X, x⟩ ⟨n, m, h1, h2, h3⟩
  refine ⟨(X.1, x), rfl, ⟨⟨m, n, h2, h1.1.1, by omega⟩, ⟨m, n, h2, h1.1.2, by omega⟩⟩, show (0 : Nat) < 100000 by decide, ?_⟩
  refine ⟨(X.2, x), rfl, ⟨⟨m, n, h2, h1.2.1, by omega⟩, ⟨m, n, h2, h1.2.2, by omega⟩⟩, show (1 : Nat) < 100000 by decide, ?_⟩
  rfl
theorem d_scaled_matrix (T : Tx K mg) : Gd P w K mg base "scaled_matrix" 4 [] ((ct_scaled_matrix K).sp K) := by
  obtain ⟨fd, F⟩ := T.d_scaled_matrix
  exact gd_of T.g_scaled_matrix F.kp (F.bindsN fun _ _ _ _ _ _ us hl => match us, hl with | [_, _], _ => rfl) (ok_scaled_matrix T F)
def ct_dot (K : Fr) : Ct := ⟨V2 × V2, fun a => [vD a.1, vD a.2], fun a => ∃ n m, Vs n a.1 ∧ Vs m a.2 ∧ n + m ≤ 4000, fun a => .fr (num (vdot a.1 a.2))⟩
theorem ok_dot (T : Tx K mg) {fd : FuncData} (F : L2.FunD K a_dot.name a_dot.qual a_dot.params a_dot.body a_dot.scope [] [] (ga K "dot") fd) : FnOk P w K mg base CX0 3 (ga K "dot") fd ["v", "w"] ((ct_dot K).sp K) := by
  refine ct_ok F sc_dot (fun a => rfl) fun cdv A outer s H E hr => ?_
  refine ⟨_, _, (pdss_cons (pds_set 2 (pd_kon T.k_ZERO) sc_dot.nd)
  (pdss_cons (pds_for PassesOwn.never rfl (pdi_range1 T.b_range (pda_cons (pd_callB1 call_lenA vo_len T.b_len (pd_name 0)) pda_nil)) (pdg_name 3 sc_dot.nd)
  (pdss_one (pds_if (PDW.pdt (pdw_and (pdt_cmp (op_neD hr.units) vo_ne (pd_ix ix_seq vo_ix (pd_ix ix_seq vo_ix (pd_name 0) (pd_name 3) (fun _ _ => rfl)) pd_int (fun _ _ => rfl)) pd_int (nomark _)) (pdw_and1 (pdt_cmp (op_neD hr.units) vo_ne (pd_ix ix_seq vo_ix (pd_ix ix_seq vo_ix (pd_name 1) (pd_name 3) (fun _ _ => rfl)) pd_int (fun _ _ => rfl)) pd_int (nomark _))))) (pdss_one (pds_set 2 (pd_call (d_plus T) (hr.mono (by decide)) (pda_cons (pd_name 2) (pda_cons (pd_call (d_product_of T) (hr.mono (by decide)) (pda_cons (pd_ix ix_seq vo_ix (pd_name 0) (pd_name 3) (fun _ _ => rfl)) (pda_cons (pd_ix ix_seq vo_ix (pd_name 1) (pd_name 3) (fun _ _ => rfl)) pda_nil))) pda_nil))) sc_dot.nd)) pdss_nil)))
  (pdss_one (pds_ret (pd_name 2))))), ?_⟩
  rintro ⟨v, u⟩ ⟨n, m, h1, h2, h3⟩
  refine ⟨⟨show (2 : Int) ≤ 100000 by decide, show (-100000 : Int) ≤ 2 by decide⟩, ?_⟩
  have p1 : Two v.1 u.1 := ⟨n, m, h1.1, h2.1, by omega⟩
  have p2 : Two v.2 u.2 := ⟨n, m, h1.2, h2.2, by omega⟩
  have s1 := h1.1.mul h2.1
  have s2 := h1.2.mul h2.2
  have t1 : Two 0 (v.1 * u.1) := ⟨1000, n + m, sz0, s1, by omega⟩
  have t2 : Two 0 (v.2 * u.2) := ⟨1000, n + m, sz0, s2, by omega⟩
  have t3 : Two (v.1 * u.1) (v.2 * u.2) := ⟨n + m, n + m, s1, s2, by omega⟩
  have z : ∀ {x y : Rat}, ¬ (!(PyData.eqv (.int x.num) (.int 0))) = true → x = 0 := fun {x y} h => by
    rw [eqI] at h
    have : x.num = 0 := by simpa using h
    exact Rat.num_eq_zero.mp this
  have zv : ∀ {x : Rat}, (!(PyData.eqv (.int x.num) (.int 0))) = true → True := fun _ => trivial
  have e1 : ∀ {x : Rat}, num (0 + x) = num x := fun {x} => by rw [Rat.zero_add]
  refine forD_is [.int 0, .int 1] [.fr (vD v), .fr (vD u), .fr zD, .un] rfl rfl ?_
  have fin2 : ∀ {a : Rat}, (a = v.1 * u.1) → ∀ {D : DEnds} {g : DG} {t : DS}, True := fun _ => trivial
  refine ite2 (fun q1 => ?_) (fun q1 => ?_)
  · refine ite2 (fun q2 => ?_) (fun q2 => ?_)
    · refine ⟨(v.1, u.1), rfl, p1, ((0 : Rat), v.1 * u.1), rfl, t1, ?_⟩
      refine forD_is [.int 1] [.fr (vD v), .fr (vD u), .fr (num (0 + v.1 * u.1)), .fr (.int 0)] rfl rfl ?_
      refine ite2 (fun q3 => ?_) (fun q3 => ?_)
      · refine ite2 (fun q4 => ?_) (fun q4 => ?_)
        · refine ⟨(v.2, u.2), rfl, p2, (0 + v.1 * u.1, v.2 * u.2), rfl, by rw [Rat.zero_add]; exact t3, ?_⟩
          show Res.fr (num (vdot v u)) = Res.fr (num (0 + v.1 * u.1 + v.2 * u.2))
          rw [Rat.zero_add]
          rfl
        · have := z (x := u.2) (y := 0) q4
          show Res.fr (num (v.1 * u.1 + v.2 * u.2)) = Res.fr (num (0 + v.1 * u.1))
          rw [this, Rat.mul_zero, Rat.add_zero, Rat.zero_add]
      · have := z (x := v.2) (y := 0) q3
        show Res.fr (num (v.1 * u.1 + v.2 * u.2)) = Res.fr (num (0 + v.1 * u.1))
        rw [this, Rat.zero_mul, Rat.add_zero, Rat.zero_add]
    · have hz := z (x := u.1) (y := 0) q2
      refine forD_is [.int 1] [.fr (vD v), .fr (vD u), .fr zD, .fr (.int 0)] rfl rfl ?_
      refine ite2 (fun q3 => ?_) (fun q3 => ?_)
      · refine ite2 (fun q4 => ?_) (fun q4 => ?_)
        · refine ⟨(v.2, u.2), rfl, p2, (0, v.2 * u.2), rfl, t2, ?_⟩
          show Res.fr (num (v.1 * u.1 + v.2 * u.2)) = Res.fr (num (0 + v.2 * u.2))
          rw [hz, Rat.mul_zero]
        · have := z (x := u.2) (y := 0) q4
          show Res.fr (num (v.1 * u.1 + v.2 * u.2)) = Res.fr (num 0)
          rw [this, hz, Rat.mul_zero, Rat.mul_zero, Rat.add_zero]
      · have := z (x := v.2) (y := 0) q3
        show Res.fr (num (v.1 * u.1 + v.2 * u.2)) = Res.fr (num 0)
        rw [this, hz, Rat.mul_zero, Rat.zero_mul, Rat.add_zero]
  · have hz := z (x := v.1) (y := 0) q1
    refine forD_is [.int 1] [.fr (vD v), .fr (vD u), .fr zD, .fr (.int 0)] rfl rfl ?_
    refine ite2 (fun q3 => ?_) (fun q3 => ?_)
    · refine ite2 (fun q4 => ?_) (fun q4 => ?_)
      · refine ⟨(v.2, u.2), rfl, p2, (0, v.2 * u.2), rfl, t2, ?_⟩
        show Res.fr (num (v.1 * u.1 + v.2 * u.2)) = Res.fr (num (0 + v.2 * u.2))
        rw [hz, Rat.zero_mul]
      · have := z (x := u.2) (y := 0) q4
        show Res.fr (num (v.1 * u.1 + v.2 * u.2)) = Res.fr (num 0)
        rw [this, hz, Rat.zero_mul, Rat.mul_zero, Rat.add_zero]
    · have := z (x := v.2) (y := 0) q3
      show Res.fr (num (v.1 * u.1 + v.2 * u.2)) = Res.fr (num 0)
      rw [this, hz, Rat.zero_mul, Rat.zero_mul, Rat.add_zero]
theorem d_dot (T : Tx K mg) : Gd P w K mg base "dot" 3 [] ((ct_dot K).sp K) := by
  obtain ⟨fd, F⟩ := T.d_dot
  exact gd_of T.g_dot F.kp (F.bindsN fun _ _ _ _ _ _ us hl => match us, hl with | [_, _], _ => rfl) (ok_dot T F)
end
end W86
end
section
set_option Elab.async false
set_option linter.all false
set_option maxRecDepth 100000
set_option maxHeartbeats 1000000
set_option exponentiation.threshold 100000
/-! WG: flows. -/
namespace W86
open PySem PySem.Spec PyProof.Rows L2 Evl DL
open He (ga ma)
open He5 (wf)
theorem lcD_go {b : Bool} {vs : List Nat} {j : Nat} {c : DT} {t : DE} {d : D} {ds acc : List D} {ρ : Ro} {Q : List D → Ro → Prop} (h : c (ρ.set j (.fr d)) fun k ρ1 => if k = true then t ρ1 fun r ρ2 => fx b ρ2 r fun e ρ3 => acc.length < 100000 ∧ lcD b vs j c t ds (acc ++ [e]) (wipeD ρ3 vs) Q else lcD b vs j c t ds acc (wipeD ρ1 vs) Q) : lcD b vs j c t (d :: ds) acc ρ Q := h
section
variable {P : Program} {w : World} {K : Fr} {mg : Str → Option Value} {base : Heap}
def ct_times_matrix (K : Fr) : Ct := ⟨M2 × M2, fun a => [mD a.1, mD a.2], fun a => ∃ n m, Ms n a.1 ∧ Ms m a.2 ∧ n + m ≤ 4000, fun a => .fr (mD (mmul a.1 a.2))⟩
theorem ok_times_matrix (T : Tx K mg) {fd : FuncData} (F : L2.FunD K a_times_matrix.name a_times_matrix.qual a_times_matrix.params a_times_matrix.body a_times_matrix.scope [] [] (ga K "times_matrix") fd) : FnOk P w K mg base CX0 4 (ga K "times_matrix") fd ["X", "Y"] ((ct_times_matrix K).sp K) := by
  refine ct_ok F sc_times_matrix (fun a => rfl) fun cdv A outer s H E hr => ?_
  refine ⟨_, _, (pdss_cons (pds_set 2 (pd_call (d_flipped T) (hr.mono (by decide)) (pda_cons (pd_name 1) pda_nil)) sc_times_matrix.nd)
  (pdss_one (pds_ret (pd_callTy1 call_tuple_of vo_tupOf T.b_tuple (pd_lc [("line", 3)] 3 rfl sc_times_matrix.nd (pdi_seq (pd_name 0)) (fun _ _ _ _ _ => pdts_nil) (fun _ _ _ _ _ => (pd_callTy1 call_tuple_of vo_tupOf T.b_tuple (pd_lc [("column", 4)] 4 rfl sc_times_matrix.nd (pdi_seq (pd_name 2)) (fun _ _ _ _ _ => pdts_nil) (fun _ _ _ _ _ => (pd_call (d_dot T) (hr.mono (by decide)) (pda_cons (pd_name 3) (pda_cons (pd_name 4) pda_nil)))) (fun _ _ _ _ _ => pg_name (i := 4) sc_times_matrix.nd rfl (by first | exact Or.inl rfl | exact Or.inr rfl)) (by kernel_rfl)))) (fun _ _ _ _ _ => pg_name (i := 3) sc_times_matrix.nd rfl (by first | exact Or.inl rfl | exact Or.inr rfl)) (show blkC NN_times_matrix (defScope s_times_matrix) _ [("line", 3)] = true by decide +kernel)))))), ?_⟩
  rintro ⟨X, Y⟩ ⟨n, m, h1, h2, h3⟩
  refine ⟨Y, rfl, trivial, ?_⟩
  refine lcD_is [vD X.1, vD X.2] [] [.fr (mD X), .fr (mD Y), .fr (mD ((Y.1.1, Y.2.1), (Y.1.2, Y.2.2))), .un, .un] rfl rfl rfl ?_
  refine lcD_go ?_
  refine lcD_is [vD (Y.1.1, Y.2.1), vD (Y.1.2, Y.2.2)] [] [.fr (mD X), .fr (mD Y), .fr (mD ((Y.1.1, Y.2.1), (Y.1.2, Y.2.2))), .fr (vD X.1), .un] rfl rfl rfl ?_
  refine ⟨(X.1, (Y.1.1, Y.2.1)), rfl, ⟨n, m, h1.1, ⟨h2.1.1, h2.2.1⟩, h3⟩, show (0 : Nat) < 100000 by decide, ?_⟩
  refine lcD_is [vD (Y.1.2, Y.2.2)] [num (vdot X.1 (Y.1.1, Y.2.1))] [.fr (mD X), .fr (mD Y), .fr (mD ((Y.1.1, Y.2.1), (Y.1.2, Y.2.2))), .fr (vD X.1), .un] rfl rfl rfl ?_
  refine ⟨(X.1, (Y.1.2, Y.2.2)), rfl, ⟨n, m, h1.1, ⟨h2.1.2, h2.2.2⟩, h3⟩, show (1 : Nat) < 100000 by decide, ?_⟩
  refine lcD_is [] [num (vdot X.1 (Y.1.1, Y.2.1)), num (vdot X.1 (Y.1.2, Y.2.2))] [.fr (mD X), .fr (mD Y), .fr (mD ((Y.1.1, Y.2.1), (Y.1.2, Y.2.2))), .fr (vD X.1), .un] rfl rfl rfl ?_
  refine ⟨show (0 : Nat) < 100000 by decide, ?_⟩
  refine lcD_is [vD X.2] [vD (vdot X.1 (Y.1.1, Y.2.1), vdot X.1 (Y.1.2, Y.2.2))] [.fr (mD X), .fr (mD Y), .fr (mD ((Y.1.1, Y.2.1), (Y.1.2, Y.2.2))), .un, .un] rfl rfl rfl ?_
  refine lcD_go ?_
  refine lcD_is [vD (Y.1.1, Y.2.1), vD (Y.1.2, Y.2.2)] [] [.fr (mD X), .fr (mD Y), .fr (mD ((Y.1.1, Y.2.1), (Y.1.2, Y.2.2))), .fr (vD X.2), .un] rfl rfl rfl ?_
  refine ⟨(X.2, (Y.1.1, Y.2.1)), rfl, ⟨n, m, h1.2, ⟨h2.1.1, h2.2.1⟩, h3⟩, show (0 : Nat) < 100000 by decide, ?_⟩
  refine lcD_is [vD (Y.1.2, Y.2.2)] [num (vdot X.2 (Y.1.1, Y.2.1))] [.fr (mD X), .fr (mD Y), .fr (mD ((Y.1.1, Y.2.1), (Y.1.2, Y.2.2))), .fr (vD X.2), .un] rfl rfl rfl ?_
  refine ⟨(X.2, (Y.1.2, Y.2.2)), rfl, ⟨n, m, h1.2, ⟨h2.1.2, h2.2.2⟩, h3⟩, show (1 : Nat) < 100000 by decide, ?_⟩
  refine lcD_is [] [num (vdot X.2 (Y.1.1, Y.2.1)), num (vdot X.2 (Y.1.2, Y.2.2))] [.fr (mD X), .fr (mD Y), .fr (mD ((Y.1.1, Y.2.1), (Y.1.2, Y.2.2))), .fr (vD X.2), .un] rfl rfl rfl ?_
  refine ⟨show (1 : Nat) < 100000 by decide, ?_⟩
  refine lcD_is [] [vD (vdot X.1 (Y.1.1, Y.2.1), vdot X.1 (Y.1.2, Y.2.2)), vD (vdot X.2 (Y.1.1, Y.2.1), vdot X.2 (Y.1.2, Y.2.2))] [.fr (mD X), .fr (mD Y), .fr (mD ((Y.1.1, Y.2.1), (Y.1.2, Y.2.2))), .un, .un] rfl rfl rfl ?_
  rfl
theorem d_times_matrix (T : Tx K mg) : Gd P w K mg base "times_matrix" 4 [] ((ct_times_matrix K).sp K) := by
  obtain ⟨fd, F⟩ := T.d_times_matrix
  exact gd_of T.g_times_matrix F.kp (F.bindsN fun _ _ _ _ _ _ us hl => match us, hl with | [_, _], _ => rfl) (ok_times_matrix T F)
def pw (k : Int) : Rat := if 0 ≤ k then (2 : Rat) ^ k.natAbs else 1 / (2 : Rat) ^ k.natAbs
theorem abs_nat (k : Int) : (if k < 0 then -k else k) = (k.natAbs : Int) := by
  split <;> omega
def ct_check_far (K : Fr) : Ct := ⟨Int, fun k => [.int k], fun k => k.natAbs ≤ 3000, fun k => .fr (.int k)⟩
theorem ok_check_far (T : Tx K mg) {fd : FuncData} (F : L2.FunD K a_check_far.name a_check_far.qual a_check_far.params a_check_far.body a_check_far.scope [] [] (ga K "check_far") fd) : FnOk P w K mg base CX0 1 (ga K "check_far") fd ["k"] ((ct_check_far K).sp K) := by
  refine ct_ok F sc_check_far (fun a => rfl) fun cdv A outer s H E hr => ?_
  refine ⟨_, _, (pdss_cons (pds_if (pdt_cmp op_gt vo_cmp (pd_callB1 call_abs vo_abs T.b_abs (pd_name 0)) (pd_kon T.k_FLOW_BOUND) (nomark _)) (pdss_one pds_never) pdss_nil)
  (pdss_one (pds_ret (pd_name 0)))), ?_⟩
  rintro (k : Int) (h : k.natAbs ≤ 3000)
  refine iteF' (fun h' => ?_) rfl
  have h' : (3000 : Int) < (if k < 0 then -k else k) := of_decide_eq_true h'
  rw [abs_nat] at h'
  omega
theorem d_check_far (T : Tx K mg) : Gd P w K mg base "check_far" 1 [] ((ct_check_far K).sp K) := by
  obtain ⟨fd, F⟩ := T.d_check_far
  exact gd_of T.g_check_far F.kp (F.bindsN fun _ _ _ _ _ _ us hl => match us, hl with | [_], _ => rfl) (ok_check_far T F)
def ct_two_raised (K : Fr) : Ct := ⟨Int, fun k => [.int k], fun k => k.natAbs ≤ 3000, fun k => .fr (num (pw k))⟩
theorem ok_two_raised (T : Tx K mg) {fd : FuncData} (F : L2.FunD K a_two_raised.name a_two_raised.qual a_two_raised.params a_two_raised.body a_two_raised.scope [] [] (ga K "two_raised") fd) : FnOk P w K mg base CX0 4 (ga K "two_raised") fd ["k"] ((ct_two_raised K).sp K) := by
  refine ct_ok F sc_two_raised (fun a => rfl) fun cdv A outer s H E hr => ?_
  refine ⟨_, _, (pdss_cons (pds_set 1 (pd_call (d_powered T) (hr.mono (by decide)) (pda_cons (pd_tup (pda_cons pd_int (pda_cons pd_int pda_nil))) (pda_cons (pd_callB1 call_abs vo_abs T.b_abs (pd_name 0)) pda_nil))) sc_two_raised.nd)
  (pdss_one (pds_ret (pd_ifExp (pdt_cmp op_ge vo_cmp (pd_name 0) pd_int (nomark _)) (pd_name 1) (pd_call (d_over T) (hr.mono (by decide)) (pda_cons (pd_kon T.k_ONE) (pda_cons (pd_name 1) pda_nil))))))), ?_⟩
  rintro (k : Int) (h : k.natAbs ≤ 3000)
  refine ⟨k.natAbs, by
    show [num 2, D.int (if k < 0 then -k else k)] = [num 2, .int (k.natAbs : Int)]
    rw [abs_nat], show k.natAbs ≤ 4000 by omega, ?_⟩
  refine ite2 (fun h' => ?_) (fun h' => ?_)
  · have h' : (0 : Int) ≤ k := of_decide_eq_true h'
    show Res.fr (num (pw k)) = Res.fr (num ((2 : Rat) ^ k.natAbs))
    unfold pw
    rw [if_pos h']
  · have h' : ¬ (0 : Int) ≤ k := fun z => h' (decide_eq_true z)
    refine ⟨((1 : Rat), (2 : Rat) ^ k.natAbs), rfl, ⟨⟨1000, k.natAbs + 1, sz1, sz2 _, by omega⟩, ?_⟩, ?_⟩
    · show (0 : Int) < ((2 : Rat) ^ k.natAbs).num
      rw [Rat.num_pow]
      exact Int.pow_pos (by decide)
    · show Res.fr (num (pw k)) = Res.fr (num (1 / (2 : Rat) ^ k.natAbs))
      unfold pw
      rw [if_neg h']
theorem d_two_raised (T : Tx K mg) : Gd P w K mg base "two_raised" 4 [] ((ct_two_raised K).sp K) := by
  obtain ⟨fd, F⟩ := T.d_two_raised
  exact gd_of T.g_two_raised F.kp (F.bindsN fun _ _ _ _ _ _ us hl => match us, hl with | [_], _ => rfl) (ok_two_raised T F)
def r12 : Rat := ⟨1, 2, by decide, by decide⟩
def r45 : Rat := ⟨4, 5, by decide, by decide⟩
def r25 : Rat := ⟨2, 5, by decide, by decide⟩
def r15 : Rat := ⟨1, 5, by decide, by decide⟩
def proj : Pt → M2
  | .a => ((1, 0), (0, 0))
  | .b => ((r12, r12), (r12, r12))
  | .c => ((r45, r25), (r25, r15))
def I2 : M2 := ((1, 0), (0, 1))
def ct_onto_line (K : Fr) : Ct := ⟨Pt, fun p => [.str p.s], fun _ => True, fun p => .fr (mD (proj p))⟩
theorem ok_onto_line (T : Tx K mg) {fd : FuncData} (F : L2.FunD K a_onto_line.name a_onto_line.qual a_onto_line.params a_onto_line.body a_onto_line.scope [] [] (ga K "onto_line") fd) : FnOk P w K mg base CX0 1 (ga K "onto_line") fd ["part"] ((ct_onto_line K).sp K) := by
  refine ct_ok F sc_onto_line (fun a => rfl) fun cdv A outer s H E hr => ?_
  refine ⟨_, _, (pdss_cons (pds_if (pdt_cmp (op_eqD hr.units) vo_eq (pd_name 0) pd_str (nomark _)) (pdss_one (pds_ret (pd_kon T.k_ONTO_A))) pdss_nil)
  (pdss_one (pds_ret (pd_ifExp (pdt_cmp (op_eqD hr.units) vo_eq (pd_name 0) pd_str (nomark _)) (pd_kon T.k_ONTO_B) (pd_kon T.k_ONTO_C))))), ?_⟩
  rintro (p : Pt) _
  refine obB_iff.mpr ⟨shP p .a, ?_⟩
  refine ite2 (fun h => ?_) (fun h => ?_)
  · have h : p = .a := of_decide_eq_true ((eqP p .a).symm.trans h)
    subst h
    rfl
  · have h : p ≠ .a := fun z => h ((eqP p .a).trans (decide_eq_true z))
    refine obB_iff.mpr ⟨shP p .b, ?_⟩
    refine ite2 (fun h' => ?_) (fun h' => ?_)
    · have h' : p = .b := of_decide_eq_true ((eqP p .b).symm.trans h')
      subst h'
      rfl
    · have h' : p ≠ .b := fun z => h' ((eqP p .b).trans (decide_eq_true z))
      have e : p = .c := by
        cases p
        · exact absurd rfl h
        · exact absurd rfl h'
        · rfl
      subst e
      rfl
theorem d_onto_line (T : Tx K mg) : Gd P w K mg base "onto_line" 1 [] ((ct_onto_line K).sp K) := by
  obtain ⟨fd, F⟩ := T.d_onto_line
  exact gd_of T.g_onto_line F.kp (F.bindsN fun _ _ _ _ _ _ us hl => match us, hl with | [_], _ => rfl) (ok_onto_line T F)
abbrev flO (K : Fr) (u p : Nat) : Ow := .obj (ga K "Flows") ["unit", "power"] [.int u, .int p]
def flD (K : Fr) (u p : Nat) : D := .obj (ga K "Flows") ["unit", "power"] [.int u, .int p]
def cw_Flows___init__ (K : Fr) : Cw := ⟨Nat × Nat, fun _ => .obj (ga K "Flows") [] [], fun a => [.int a.1, .int a.2], fun a => 1 ≤ a.1, fun _ => .fr .non, fun a => flO K a.1 a.2⟩
theorem ok_Flows___init__ (T : Tx K mg) {fd : FuncData} (F : L2.FunD K a_Flows___init__.name a_Flows___init__.qual a_Flows___init__.params a_Flows___init__.body a_Flows___init__.scope [] [] (ma K (ga K "Flows") "__init__") fd) : FnOk P w K mg base CX0 2 (ma K (ga K "Flows") "__init__") fd ["self", "unit", "power"] ((cw_Flows___init__ K).sp K) := by
  refine cw_ok F sc_Flows___init__ (fun a => rfl) fun cdv A outer s H E hr => ?_
  refine ⟨_, _, (pdss_cons (pds_if (PDW.pdt (pdw_or (pdt_not (pdt_val (pd_call (d_is_whole T) (hr.mono (by decide)) (pda_cons (pd_name 1) pda_nil)))) (pdw_or (pdt_not (pdt_val (pd_call (d_is_whole T) (hr.mono (by decide)) (pda_cons (pd_name 2) pda_nil)))) (pdw_or (pdt_cmp op_lt vo_cmp (pd_name 1) pd_int (nomark _)) (pdw_or1 (pdt_cmp op_lt vo_cmp (pd_name 2) pd_int (nomark _))))))) (pdss_one pds_never) pdss_nil)
  (pdss_cons (pds_setFld 0 (pd_name 1))
  (pdss_one (pds_setFld 0 (pd_name 2))))), ?_⟩
  rintro ⟨u, p⟩ h
  have h : 1 ≤ u := h
  refine ⟨(u : Int), rfl, trivial, ?_⟩
  refine ⟨(p : Int), rfl, trivial, ?_⟩
  refine iteF' (fun h' => ?_) ?_
  · have h' : (u : Int) < 1 := of_decide_eq_true h'
    omega
  · refine ⟨_, _, _, rfl, T.c_Flows, T.n_Flows_unit, show (0 : Nat) < 1000 from by decide, ?_⟩
    exact ⟨_, _, _, rfl, T.c_Flows, T.n_Flows_power, show (1 : Nat) < 1000 from by decide, rfl, rfl⟩
theorem mk_Flows (T : Tx K mg) : Mkd P w K mg base "Flows" (ga K "Flows") 2 [] ((cw_Flows___init__ K).sp K) := by
  obtain ⟨fd, F⟩ := T.d_Flows___init__
  exact mkd_of T.g_Flows T.mk_Flows (F.bindsN fun _ _ _ _ _ _ us hl => match us, hl with | [_, _, _], _ => rfl) (ok_Flows___init__ T F)
/-- the flow of a link: count steps on a part -/
def flowM (p : Nat) (pt : Pt) (k : Int) : M2 := madd I2 (msc (proj pt) (pw (-((p : Int) * k)) - 1))
theorem sz_pw {k : Int} (h : k.natAbs ≤ 3000) : Sz 3001 (pw k) := by
  unfold pw
  split
  · exact (sz2 _).mono (by omega)
  · have hh := sz2 k.natAbs
    refine ⟨?_, ?_⟩
    · rw [Rat.div_def, Rat.one_mul, Rat.num_inv, Rat.num_pow, Rat.den_pow]
      show (((2 : Int) ^ k.natAbs).sign * ((1 ^ k.natAbs : Nat) : Int)).natAbs < 2 ^ 3001
      rw [Nat.one_pow, Int.sign_eq_one_of_pos (Int.pow_pos (by decide))]
      exact Nat.one_lt_two_pow (by decide)
    · rw [Rat.div_def, Rat.one_mul, Rat.den_inv]
      have h0 : ((2 : Rat) ^ k.natAbs).num ≠ 0 := by
        rw [Rat.num_pow]
        exact Int.ne_of_gt (Int.pow_pos (by decide))
      rw [if_neg h0]
      exact (hh.mono (by omega : k.natAbs + 1 ≤ 3001)).1
theorem ms_proj (pt : Pt) : Ms 3 (proj pt) := by
  cases pt
  · exact ⟨⟨⟨by decide, by decide⟩, ⟨by decide, by decide⟩⟩, ⟨⟨by decide, by decide⟩, ⟨by decide, by decide⟩⟩⟩
  · exact ⟨⟨⟨by decide, by decide⟩, ⟨by decide, by decide⟩⟩, ⟨⟨by decide, by decide⟩, ⟨by decide, by decide⟩⟩⟩
  · exact ⟨⟨⟨by decide, by decide⟩, ⟨by decide, by decide⟩⟩, ⟨⟨by decide, by decide⟩, ⟨by decide, by decide⟩⟩⟩
theorem ms_I2 : Ms 1 I2 := ⟨⟨⟨by decide, by decide⟩, ⟨by decide, by decide⟩⟩, ⟨⟨by decide, by decide⟩, ⟨by decide, by decide⟩⟩⟩
theorem Vs.mul {n m : Nat} {v : V2} {x : Rat} (h : Vs n v) (h' : Sz m x) : Vs (n + m) (vmul v x) := ⟨by rw [Nat.add_comm]; exact h'.mul h.1, by rw [Nat.add_comm]; exact h'.mul h.2⟩
theorem Ms.sc {n m : Nat} {X : M2} {x : Rat} (h : Ms n X) (h' : Sz m x) : Ms (n + m) (msc X x) := ⟨h.1.mul h', h.2.mul h'⟩
def ct_Flows_flow (K : Fr) : Ct := ⟨Nat × Nat × Pt × Int, fun a => [flD K a.1 a.2.1, .str a.2.2.1.s, .int a.2.2.2], fun a => ((a.2.1 : Int) * a.2.2.2).natAbs ≤ 3000 ∧ a.2.1 < 2 ^ 100 ∧ a.2.2.2.natAbs < 2 ^ 100, fun a => .fr (mD (flowM a.2.1 a.2.2.1 a.2.2.2))⟩
theorem ok_Flows_flow (T : Tx K mg) {fd : FuncData} (F : L2.FunD K a_Flows_flow.name a_Flows_flow.qual a_Flows_flow.params a_Flows_flow.body a_Flows_flow.scope [] [] (ma K (ga K "Flows") "flow") fd) : FnOk P w K mg base CX0 5 (ma K (ga K "Flows") "flow") fd ["self", "part", "count"] ((ct_Flows_flow K).sp K) := by
  refine ct_ok F sc_Flows_flow (fun a => rfl) fun cdv A outer s H E hr => ?_
  refine ⟨_, _, (pdss_cons (pds_expr (pd_call (d_check_part T) (hr.mono (by decide)) (pda_cons (pd_name 1) pda_nil)))
  (pdss_cons (pds_if (pdt_not (pdt_val (pd_call (d_is_whole T) (hr.mono (by decide)) (pda_cons (pd_name 2) pda_nil)))) (pdss_one pds_never) pdss_nil)
  (pdss_cons (pds_set 3 (pd_call (d_two_raised T) (hr.mono (by decide)) (pda_cons (pd_un un_neg vo_neg (pd_call (d_check_far T) (hr.mono (by decide)) (pda_cons (pd_op op_mulA vo_mul (pd_fld T.f_Flows_power (pd_name 0)) (pd_name 2)) pda_nil))) pda_nil)) sc_Flows_flow.nd)
  (pdss_one (pds_ret (pd_call (d_plus_matrix T) (hr.mono (by decide)) (pda_cons (pd_kon T.k_PLANE) (pda_cons (pd_call (d_scaled_matrix T) (hr.mono (by decide)) (pda_cons (pd_call (d_onto_line T) (hr.mono (by decide)) (pda_cons (pd_name 1) pda_nil)) (pda_cons (pd_call (d_minus T) (hr.mono (by decide)) (pda_cons (pd_name 3) (pda_cons (pd_kon T.k_ONE) pda_nil))) pda_nil))) pda_nil)))))))), ?_⟩
  rintro ⟨u, p, pt, k⟩ ⟨h, h1, h2⟩
  have h : ((p : Int) * k).natAbs ≤ 3000 := h
  refine ⟨pt, rfl, trivial, ?_⟩
  refine ⟨k, rfl, trivial, ?_⟩
  refine ⟨⟨rfl, rfl⟩, mulS (show ((p : Int)).natAbs < 2 ^ 100 by simpa using h1) h2, (p : Int) * k, rfl, h, ?_⟩
  have h' : (-((p : Int) * k)).natAbs ≤ 3000 := by rw [Int.natAbs_neg]; exact h
  refine ⟨-((p : Int) * k), rfl, h', ?_⟩
  refine ⟨pt, rfl, trivial, ?_⟩
  have sp := sz_pw h'
  refine ⟨(pw (-((p : Int) * k)), (1 : Rat)), rfl, ⟨3001, 1000, sp, sz1, by decide⟩, ?_⟩
  have sd : Sz 4002 (pw (-((p : Int) * k)) - 1) := by
    rw [Rat.sub_eq_add_neg]
    exact sp.add sz1.neg
  refine ⟨(proj pt, pw (-((p : Int) * k)) - 1), rfl, ⟨3, 4002, ms_proj pt, sd, by decide⟩, ?_⟩
  refine ⟨(I2, msc (proj pt) (pw (-((p : Int) * k)) - 1)), rfl, ⟨1, 4005, ms_I2, (ms_proj pt).sc sd, by decide⟩, ?_⟩
  rfl
theorem m_Flows_flow (T : Tx K mg) : Md P w K mg base (ga K "Flows") "flow" 5 ((ct_Flows_flow K).sp K) := by
  obtain ⟨fd, F⟩ := T.d_Flows_flow
  exact md_of T.c_Flows T.q_Flows_flow (F.bindsN fun _ _ _ _ _ _ us hl => match us, hl with | [_, _, _], _ => rfl) (ok_Flows_flow T F)
end
end W86
end
section
set_option Elab.async false
set_option linter.all false
set_option maxRecDepth 100000
set_option maxHeartbeats 1000000
set_option exponentiation.threshold 100000
/-! WH: the flow of a row; units. -/
namespace W86
open PySem PySem.Spec PyProof.Rows L2 Evl DL
open He (ga ma)
open He5 (wf)
/-- the steps of a link in a unit -/
def cn (S u : Nat) (l : Lk) : Int := l.2 * u / S
def flowsFrom (p S u : Nat) (m : M2) (ls : List Lk) : M2 := ls.foldl (fun m l => mmul m (flowM p l.1 (cn S u l))) m
def flowOf (p S u : Nat) (ls : List Lk) : M2 := flowsFrom p S u I2 ls
/-- what a link must be that it may be run -/
def Steps (p S u : Nat) (l : Lk) : Prop := l.2 * u = cn S u l * S ∧ ((p : Int) * cn S u l).natAbs ≤ 3000 ∧ (cn S u l).natAbs < 2 ^ 100 ∧ Szk S l.2 ∧ Ms 500 (flowM p l.1 (cn S u l))
def Runs (p S u : Nat) : M2 → List Lk → Prop
  | _, [] => True
  | m, l :: ls => Steps p S u l ∧ Ms 3500 m ∧ Runs p S u (mmul m (flowM p l.1 (cn S u l))) ls
theorem num_int (k : Int) : num (k : Rat) = .tup [.int k, .int 1] := rfl
theorem len_steps {p S u : Nat} {l : Lk} (h : Steps p S u l) : len S l.2 * (u : Rat) = ((cn S u l : Int) : Rat) := by
  obtain ⟨h1, _, _, h4, _⟩ := h
  have hS : (S : Rat) ≠ 0 := by
    have := h4.1
    intro z
    have : (S : Int) = 0 := by exact_mod_cast z
    omega
  unfold len
  rw [Rat.mkRat_eq_div]
  have e : ((l.2 * u : Int) : Rat) = ((cn S u l * S : Int) : Rat) := by rw [h1]
  rw [Rat.intCast_mul, Rat.intCast_mul] at e
  have e2 : ((u : Int) : Rat) = (u : Rat) := rfl
  have e3 : ((S : Int) : Rat) = (S : Rat) := rfl
  rw [e2, e3] at e
  grind
section
variable {P : Program} {w : World} {K : Fr} {mg : Str → Option Value} {base : Heap}
def ct_row_flow (K : Fr) : Ct := ⟨Nat × Nat × Nat × List Lk, fun a => [flD K a.1 a.2.1, rowD K a.2.2.1 a.2.2.2], fun a => a.1 < 2 ^ 900 ∧ a.2.1 < 2 ^ 100 ∧ a.2.2.2.length ≤ 600 ∧ Runs a.2.1 a.2.2.1 a.1 I2 a.2.2.2, fun a => .fr (mD (flowOf a.2.1 a.2.2.1 a.1 a.2.2.2))⟩
theorem ok_row_flow (T : Tx K mg) {fd : FuncData} (F : L2.FunD K a_row_flow.name a_row_flow.qual a_row_flow.params a_row_flow.body a_row_flow.scope [] [] (ga K "row_flow") fd) : FnOk P w K mg base CX0 6 (ga K "row_flow") fd ["flows", "row"] ((ct_row_flow K).sp K) := by
  refine ct_ok F sc_row_flow (fun a => rfl) fun cdv A outer s H E hr => ?_
  refine ⟨_, _, (pdss_cons (pds_set 2 (pd_kon T.k_PLANE) sc_row_flow.nd)
  (pdss_cons (pds_for PassesOwn.never rfl (pdi_seq (pd_fld T.f_Row_links (pd_call (d_all_true T) (hr.mono (by decide)) (pda_cons (pd_name 1) pda_nil)))) (pdg_name 3 sc_row_flow.nd)
  (pdss_cons (pds_set 4 (pd_call (d_product_of T) (hr.mono (by decide)) (pda_cons (pd_fld T.f_Link_length (pd_name 3)) (pda_cons (pd_tup (pda_cons (pd_fld T.f_Flows_unit (pd_name 0)) (pda_cons pd_int pda_nil))) pda_nil))) sc_row_flow.nd)
  (pdss_cons (pds_if (pdt_cmp (op_neD hr.units) vo_ne (pd_ix ix_seq vo_ix (pd_name 4) pd_int (fun _ _ => rfl)) pd_int (nomark _)) (pdss_one pds_never) pdss_nil)
  (pdss_one (pds_set 2 (pd_call (d_times_matrix T) (hr.mono (by decide)) (pda_cons (pd_name 2) (pda_cons (pd_meth (m_Flows_flow T) (hr.mono (by decide)) (pd_name 0) (pda_cons (pd_fld T.f_Link_part (pd_name 3)) (pda_cons (pd_ix ix_seq vo_ix (pd_name 4) pd_int (fun _ _ => rfl)) pda_nil))) pda_nil))) sc_row_flow.nd)))))
  (pdss_one (pds_ret (pd_name 2))))), ?_⟩
  rintro ⟨u, p, S, ls⟩ ⟨h0, h1, h2, h3⟩
  have h0 : u < 2 ^ 900 := h0
  have h1 : p < 2 ^ 100 := h1
  have h2 : ls.length ≤ 600 := h2
  have h3 : Runs p S u I2 ls := h3
  refine ⟨(S, ls), rfl, h2, ?_⟩
  refine ⟨⟨rfl, rfl⟩, ?_⟩
  refine forD_ind (f := lkD K S) (fun r ρ => ∃ m s3 s4, ρ = [.fr (flD K u p), .fr (rowD K S ls), .fr (mD m), s3, s4] ∧ Runs p S u m r ∧ flowsFrom p S u m r = flowOf p S u ls) ⟨I2, .un, .un, rfl, h3, rfl⟩ ?_ ?_
  · rintro x r ρ ⟨m, s3, s4, rfl, e1, e2⟩ nx hn
    obtain ⟨st, sm, e3⟩ := e1
    obtain ⟨g1, g2, g3, g4, g5⟩ := id st
    refine ⟨⟨rfl, rfl⟩, ⟨rfl, rfl⟩, (len S x.2, (u : Rat)), rfl, ⟨900, 901, g4.sz, ⟨?_, ?_⟩, by decide⟩, ?_⟩
    · show ((u : Int)).natAbs < 2 ^ 901
      omega
    · show 1 < 2 ^ 901
      exact Nat.one_lt_two_pow (by decide)
    · have en : ∀ K', (ct_product_of K').res (len S x.2, (u : Rat)) = .fr (.tup [.int (cn S u x), .int 1]) := fun K' => by
        show Res.fr (num (len S x.2 * (u : Rat))) = _
        rw [len_steps st]
        rfl
      rw [en]
      refine ⟨⟨_, _, rfl, rfl⟩, ⟨rfl, rfl⟩, (u, p, x.1, cn S u x), rfl, ⟨g2, h1, g3⟩, (m, flowM p x.1 (cn S u x)), rfl, ⟨3500, 500, sm, g5, by decide⟩, ?_⟩
      exact hn _ ⟨mmul m (flowM p x.1 (cn S u x)), .fr (lkD K S x), .fr (.tup [.int (cn S u x), .int 1]), rfl, e3, e2⟩
  · rintro ρ ⟨m, s3, s4, rfl, e1, e2⟩
    have e2 : m = flowOf p S u ls := e2
    subst e2
    rfl
theorem d_row_flow (T : Tx K mg) : Gd P w K mg base "row_flow" 6 [] ((ct_row_flow K).sp K) := by
  obtain ⟨fd, F⟩ := T.d_row_flow
  exact gd_of T.g_row_flow F.kp (F.bindsN fun _ _ _ _ _ _ us hl => match us, hl with | [_, _], _ => rfl) (ok_row_flow T F)
def ct_Flows___call__ (K : Fr) : Ct := ⟨Nat × Nat × Nat × List Lk, fun a => [flD K a.1 a.2.1, rowD K a.2.2.1 a.2.2.2], fun a => a.1 < 2 ^ 900 ∧ a.2.1 < 2 ^ 100 ∧ a.2.2.2.length ≤ 600 ∧ Runs a.2.1 a.2.2.1 a.1 I2 a.2.2.2, fun a => .fr (mD (flowOf a.2.1 a.2.2.1 a.1 a.2.2.2))⟩
theorem ok_Flows___call__ (T : Tx K mg) {fd : FuncData} (F : L2.FunD K a_Flows___call__.name a_Flows___call__.qual a_Flows___call__.params a_Flows___call__.body a_Flows___call__.scope [] [] (ma K (ga K "Flows") "__call__") fd) : FnOk P w K mg base CX0 7 (ma K (ga K "Flows") "__call__") fd ["self", "row"] ((ct_Flows___call__ K).sp K) := by
  refine ct_ok F sc_Flows___call__ (fun a => rfl) fun cdv A outer s H E hr => ?_
  refine ⟨_, _, (pdss_one (pds_ret (pd_call (d_row_flow T) (hr.mono (by decide)) (pda_cons (pd_name 0) (pda_cons (pd_name 1) pda_nil))))), ?_⟩
  rintro a h
  exact ⟨a, rfl, h, rfl⟩
theorem m_Flows___call__ (T : Tx K mg) : Md P w K mg base (ga K "Flows") "__call__" 7 ((ct_Flows___call__ K).sp K) := by
  obtain ⟨fd, F⟩ := T.d_Flows___call__
  exact md_of T.c_Flows T.q_Flows___call__ (F.bindsN fun _ _ _ _ _ _ us hl => match us, hl with | [_, _], _ => rfl) (ok_Flows___call__ T F)
theorem c_Flows (T : Tx K mg) : Co P w K mg base (ga K "Flows") 7 ((ct_Flows___call__ K).sp K) := by
  obtain ⟨fd, F⟩ := T.d_Flows___call__
  have q := T.q_Flows___call__
  have b : Binds K fd ["self", "row"] [] := F.bindsN fun _ _ _ _ _ _ us hl => match us, hl with | [_, _], _ => rfl
  refine ⟨_, fd, _, ⟨q.at_, q.fn, ?_⟩, b, ok_Flows___call__ T F⟩
  obtain ⟨oc, od, dV, kV, doc, pm, an, cdv, ct, osl, e1, e2, _⟩ := F.ex
  have e3 : K.lookup (ma K (ga K "Flows") "__call__") = some ⟨oc, od, .func fd, osl⟩ := e2
  unfold PySem.W.fnIn
  rw [e3]
/-- the unit of a row: the least common multiple of its lengths' denominators -/
def unitOf (S : Nat) (ls : List Lk) : Nat := ls.foldl (fun u l => Nat.lcm u (len S l.2).den) 1
def ct_unit_of (K : Fr) : Ct := ⟨RA, fun a => [rowD K a.1 a.2], fun a => 0 < a.1 ∧ a.1 < 2 ^ 64, fun a => .fr (.int (unitOf a.1 a.2))⟩
theorem den_dvd (S : Nat) (h : 0 < S) (k : Int) : (len S k).den ∣ S := by
  unfold len
  rw [Rat.den_mkRat, if_neg (by omega)]
  exact Nat.div_dvd_of_dvd (Nat.gcd_dvd_left _ _)
theorem ok_unit_of (T : Tx K mg) {fd : FuncData} (F : L2.FunD K a_unit_of.name a_unit_of.qual a_unit_of.params a_unit_of.body a_unit_of.scope [] [] (ga K "unit_of") fd) : FnOk P w K mg base CX0 1 (ga K "unit_of") fd ["row"] ((ct_unit_of K).sp K) := by
  refine ct_ok F sc_unit_of (fun a => rfl) fun cdv A outer s H E hr => ?_
  refine ⟨_, _, (pdss_cons (pds_set 1 pd_int sc_unit_of.nd)
  (pdss_cons (pds_for PassesOwn.never rfl (pdi_seq (pd_fld T.f_Row_links (pd_name 0))) (pdg_name 2 sc_unit_of.nd)
  (pdss_one (pds_set 1 (pd_callF cr_lcm vo_lcm T.g_lcm (pda_cons (pd_name 1) (pda_cons (pd_ix ix_seq vo_ix (pd_fld T.f_Link_length (pd_name 2)) pd_int (fun _ _ => rfl)) pda_nil))) sc_unit_of.nd)))
  (pdss_one (pds_ret (pd_name 1))))), ?_⟩
  rintro ⟨S, ls⟩ ⟨h0, h1⟩
  have h0 : 0 < S := h0
  have h1 : S < 2 ^ 64 := h1
  refine ⟨⟨rfl, rfl⟩, ?_⟩
  refine forD_ind (f := lkD K S) (fun r ρ => ∃ (m : Nat) (s2 : Sl), ρ = [.fr (rowD K S ls), .fr (.int m), s2] ∧ m ∣ S ∧ r.foldl (fun u l => Nat.lcm u (len S l.2).den) m = unitOf S ls) ⟨1, .un, rfl, Nat.one_dvd S, rfl⟩ ?_ ?_
  · rintro x r ρ ⟨m, s2, rfl, e1, e2⟩ nx hn
    have hd := den_dvd S h0 x.2
    have l1 : m ≤ S := Nat.le_of_dvd h0 e1
    have l2 : (len S x.2).den ≤ S := Nat.le_of_dvd h0 hd
    refine ⟨⟨rfl, rfl⟩, ?_⟩
    refine ⟨show (m : Int).natAbs < 2 ^ 64 by omega, show (((len S x.2).den : Nat) : Int).natAbs < 2 ^ 64 by omega, ?_⟩
    exact hn _ ⟨Nat.lcm m (len S x.2).den, .fr (lkD K S x), rfl, Nat.lcm_dvd e1 hd, e2⟩
  · rintro ρ ⟨m, s2, rfl, e1, e2⟩
    have e2 : m = unitOf S ls := e2
    subst e2
    rfl
theorem d_unit_of (T : Tx K mg) : Gd P w K mg base "unit_of" 1 [] ((ct_unit_of K).sp K) := by
  obtain ⟨fd, F⟩ := T.d_unit_of
  exact gd_of T.g_unit_of F.kp (F.bindsN fun _ _ _ _ _ _ us hl => match us, hl with | [_], _ => rfl) (ok_unit_of T F)
end
end W86
end
section
set_option Elab.async false
set_option linter.all false
set_option maxRecDepth 100000
set_option maxHeartbeats 1000000
set_option exponentiation.threshold 100000
/-! PM: the plain law: flows, their traces, in ints. -/
namespace W86
open PySem PySem.Spec PyProof.Rows L2 Evl DL
theorem mext {X Y : M2} (h1 : X.1.1 = Y.1.1) (h2 : X.1.2 = Y.1.2) (h3 : X.2.1 = Y.2.1) (h4 : X.2.2 = Y.2.2) : X = Y := Prod.ext (Prod.ext h1 h2) (Prod.ext h3 h4)
theorem mmul_assoc (X Y Z : M2) : mmul (mmul X Y) Z = mmul X (mmul Y Z) := by
  obtain ⟨⟨a, b⟩, ⟨c, d⟩⟩ := X
  obtain ⟨⟨e, f⟩, ⟨g, h⟩⟩ := Y
  obtain ⟨⟨i, j⟩, ⟨k, l⟩⟩ := Z
  apply mext <;> simp only [mmul, vdot] <;> grind
theorem I_mul (X : M2) : mmul I2 X = X := by
  obtain ⟨⟨a, b⟩, ⟨c, d⟩⟩ := X
  apply mext <;> simp only [mmul, vdot, I2] <;> grind
theorem mul_I (X : M2) : mmul X I2 = X := by
  obtain ⟨⟨a, b⟩, ⟨c, d⟩⟩ := X
  apply mext <;> simp only [mmul, vdot, I2] <;> grind
def tr (X : M2) : Rat := X.1.1 + X.2.2
theorem tr_comm (X Y : M2) : tr (mmul X Y) = tr (mmul Y X) := by
  obtain ⟨⟨a, b⟩, ⟨c, d⟩⟩ := X
  obtain ⟨⟨e, f⟩, ⟨g, h⟩⟩ := Y
  simp only [tr, mmul, vdot]
  grind
theorem r12e : r12 = 1 / 2 := by decide +kernel
theorem r45e : r45 = 4 / 5 := by decide +kernel
theorem r25e : r25 = 2 / 5 := by decide +kernel
theorem r15e : r15 = 1 / 5 := by decide +kernel
theorem flow_mul (pt : Pt) (x y : Rat) (h : x * y = 1) : mmul (madd I2 (msc (proj pt) (x - 1))) (madd I2 (msc (proj pt) (y - 1))) = I2 := by
  cases pt
  · apply mext <;> simp only [mmul, vdot, I2, madd, msc, vadd, vmul, proj] <;> grind
  · apply mext <;> simp only [mmul, vdot, I2, madd, msc, vadd, vmul, proj, r12e] <;> grind
  · apply mext <;> simp only [mmul, vdot, I2, madd, msc, vadd, vmul, proj, r45e, r25e, r15e] <;> grind
theorem pow2_ne (n : Nat) : (2 : Rat) ^ n ≠ 0 := by
  induction n with
  | zero => rw [Rat.pow_zero]; decide
  | succ n ih =>
    rw [Rat.pow_succ]
    grind
theorem pw_neg (k : Int) : pw k * pw (-k) = 1 := by
  have h := pow2_ne k.natAbs
  unfold pw
  rw [Int.natAbs_neg]
  by_cases h0 : 0 ≤ k
  · by_cases h1 : 0 ≤ -k
    · have : k = 0 := by omega
      subst this
      rw [if_pos h0, if_pos h1]
      show (2 : Rat) ^ 0 * (2 : Rat) ^ 0 = 1
      rw [Rat.pow_zero, Rat.mul_one]
    · rw [if_pos h0, if_neg h1]
      grind
  · rw [if_neg h0, if_pos (by omega)]
    grind
theorem flowM_inv (p : Nat) (pt : Pt) (k : Int) : mmul (flowM p pt k) (flowM p pt (-k)) = I2 := by
  unfold flowM
  refine flow_mul pt _ _ ?_
  have := pw_neg (-((p : Int) * k))
  rw [show -((p : Int) * -k) = -(-((p : Int) * k)) by rw [Int.mul_neg]]
  exact this
theorem flowsFrom_eq (p S u : Nat) (m : M2) (ls : List Lk) : flowsFrom p S u m ls = mmul m (flowOf p S u ls) := by
  induction ls generalizing m with
  | nil => exact (mul_I m).symm
  | cons l ls ih =>
    have e1 : flowsFrom p S u m (l :: ls) = flowsFrom p S u (mmul m (flowM p l.1 (cn S u l))) ls := rfl
    have e2 : flowOf p S u (l :: ls) = flowsFrom p S u (mmul I2 (flowM p l.1 (cn S u l))) ls := rfl
    rw [e1, e2, ih, ih, I_mul, mmul_assoc]
theorem flowOf_app (p S u : Nat) (a b : List Lk) : flowOf p S u (a ++ b) = mmul (flowOf p S u a) (flowOf p S u b) := by
  have : flowOf p S u (a ++ b) = flowsFrom p S u (flowOf p S u a) b := by
    unfold flowOf flowsFrom
    rw [List.foldl_append]
  rw [this, flowsFrom_eq]
theorem cn_inv {S u : Nat} (h0 : 0 < S) {l : Lk} (h : l.2 * u = cn S u l * S) : cn S u (inv l) = - cn S u l := by
  have e : cn S u (inv l) = (-l.2) * u / S := rfl
  rw [e, Int.neg_mul, h, ← Int.neg_mul]
  exact Int.mul_ediv_cancel _ (by omega)
theorem flow_undone {p S u : Nat} (h0 : 0 < S) : ∀ (a : List Lk), (∀ l ∈ a, l.2 * u = cn S u l * S) → mmul (flowOf p S u (a.reverse.map inv)) (flowOf p S u a) = I2 := by
  intro a
  induction a with
  | nil => intro _; exact I_mul I2
  | cons l a ih =>
    intro h
    have e : (l :: a).reverse.map inv = a.reverse.map inv ++ [inv l] := by simp
    have e2 : l :: a = [l] ++ a := rfl
    rw [e, flowOf_app]
    conv => lhs; rw [e2, flowOf_app]
    rw [mmul_assoc, ← mmul_assoc (flowOf p S u [inv l])]
    have e3 : mmul (flowOf p S u [inv l]) (flowOf p S u [l]) = I2 := by
      have e4 : flowOf p S u [inv l] = mmul I2 (flowM p l.1 (cn S u (inv l))) := rfl
      have e5 : flowOf p S u [l] = mmul I2 (flowM p l.1 (cn S u l)) := rfl
      rw [e4, e5, I_mul, I_mul, cn_inv h0 (h l (by simp))]
      have := flowM_inv p l.1 (-cn S u l)
      rw [Int.neg_neg] at this
      exact this
    rw [e3, I_mul]
    exact ih fun x hx => h x (by simp [hx])
theorem tr_outer {p S u : Nat} (h0 : 0 < S) (a ls : List Lk) (h : ∀ l ∈ a, l.2 * u = cn S u l * S) : tr (flowOf p S u (a ++ ls ++ a.reverse.map inv)) = tr (flowOf p S u ls) := by
  rw [flowOf_app, tr_comm, flowOf_app, ← mmul_assoc, flow_undone h0 a h, I_mul]
/-! the law's own flows, in ints -/
abbrev Z2 := (Int × Int) × (Int × Int)
def zmul (X Y : Z2) : Z2 := ((X.1.1 * Y.1.1 + X.1.2 * Y.2.1, X.1.1 * Y.1.2 + X.1.2 * Y.2.2), (X.2.1 * Y.1.1 + X.2.2 * Y.2.1, X.2.1 * Y.1.2 + X.2.2 * Y.2.2))
def zrows : Pt → Z2
  | .a => ((1, 0), (0, 0))
  | .b => ((1, 1), (1, 1))
  | .c => ((4, 2), (2, 1))
def zbot : Pt → Nat
  | .a => 1
  | .b => 2
  | .c => 5
def zlin (x : Int) (X : Z2) (y : Int) (Y : Z2) : Z2 := ((x * X.1.1 + y * Y.1.1, x * X.1.2 + y * Y.1.2), (x * X.2.1 + y * Y.2.1, x * X.2.2 + y * Y.2.2))
def zacross (p : Pt) : Z2 := zlin (zbot p) ((1, 0), (0, 1)) (-1) (zrows p)
/-- the law's flow of a link: ints, and what they are divided by -/
def zflow (p : Nat) (pt : Pt) (k : Int) : Z2 × Nat :=
  let size := 2 ^ (p * k.natAbs)
  if 0 ≤ k then (zlin (size : Nat) (zacross pt) 1 (zrows pt), zbot pt * size) else (zlin 1 (zacross pt) (size : Nat) (zrows pt), zbot pt)
/-- X is Z over s -/
def Is (X : M2) (Z : Z2 × Nat) : Prop := 0 < Z.2 ∧ X.1.1 * (Z.2 : Rat) = Z.1.1.1 ∧ X.1.2 * (Z.2 : Rat) = Z.1.1.2 ∧ X.2.1 * (Z.2 : Rat) = Z.1.2.1 ∧ X.2.2 * (Z.2 : Rat) = Z.1.2.2
theorem natCast_pow2 (n : Nat) : ((2 ^ n : Nat) : Rat) = (2 : Rat) ^ n := by
  induction n with
  | zero => rfl
  | succ n ih => rw [Rat.pow_succ, Nat.pow_succ, ← ih, Rat.natCast_mul]; rfl
theorem Is.mul {X Y : M2} {Z W : Z2 × Nat} (h : Is X Z) (h' : Is Y W) : Is (mmul X Y) (zmul Z.1 W.1, Z.2 * W.2) := by
  obtain ⟨h0, h1, h2, h3, h4⟩ := h
  obtain ⟨g0, g1, g2, g3, g4⟩ := h'
  obtain ⟨⟨a, b⟩, ⟨c, d⟩⟩ := X
  obtain ⟨⟨e, f⟩, ⟨g, h⟩⟩ := Y
  obtain ⟨⟨⟨i, j⟩, ⟨k, l⟩⟩, z⟩ := Z
  obtain ⟨⟨⟨i', j'⟩, ⟨k', l'⟩⟩, w⟩ := W
  refine ⟨Nat.mul_pos h0 g0, ?_, ?_, ?_, ?_⟩ <;> simp only [mmul, vdot, zmul, Rat.natCast_mul, Rat.intCast_add, Rat.intCast_mul] at * <;> grind
theorem is_I : Is I2 (((1, 0), (0, 1)), 1) := ⟨by decide, by decide +kernel, by decide +kernel, by decide +kernel, by decide +kernel⟩
theorem is_flow (p : Nat) (pt : Pt) (k : Int) : Is (flowM p pt k) (zflow p pt k) := by
  unfold zflow flowM
  have hn : (-((p : Int) * k)).natAbs = p * k.natAbs := by rw [Int.natAbs_neg, Int.natAbs_mul, Int.natAbs_natCast]
  have hs : 0 < 2 ^ (p * k.natAbs) := Nat.pow_pos (by decide)
  have hr := natCast_pow2 (p * k.natAbs)
  have hz := pow2_ne (p * k.natAbs)
  have e1 : pw (-((p : Int) * k)) = if 0 ≤ k then 1 / ((2 ^ (p * k.natAbs) : Nat) : Rat) else ((2 ^ (p * k.natAbs) : Nat) : Rat) := by
    unfold pw
    rw [hn, hr]
    by_cases hk : 0 ≤ k
    · rw [if_pos hk]
      by_cases hq : 0 ≤ -((p : Int) * k)
      · rw [if_pos hq]
        have h3 : 0 ≤ (p : Int) * k := Int.mul_nonneg (by omega) hk
        have h4 : (p : Int) * k = 0 := by omega
        have h5 : p * k.natAbs = 0 := by rw [← hn]; rw [h4]; rfl
        rw [h5, Rat.pow_zero]
        decide +kernel
      · rw [if_neg hq]
    · rw [if_neg hk]
      have h3 : (p : Int) * k ≤ 0 := Int.mul_nonpos_of_nonneg_of_nonpos (by omega) (by omega)
      rw [if_pos (by omega)]
  rw [e1]
  rw [← hr] at hz
  generalize 2 ^ (p * k.natAbs) = s at *
  have hc : (((s : Nat) : Int) : Rat) = (s : Rat) := Rat.intCast_natCast s
  clear e1 hn hr
  by_cases hk : 0 ≤ k
  · simp only [if_pos hk]
    cases pt
    · refine ⟨Nat.mul_pos (by decide) hs, ?_, ?_, ?_, ?_⟩ <;> simp only [I2, madd, msc, vadd, vmul, proj, zlin, zacross, zrows, zbot, Rat.natCast_mul, Rat.intCast_add, Rat.intCast_mul, Rat.intCast_neg, hc] <;> simp <;> grind
    · refine ⟨Nat.mul_pos (by decide) hs, ?_, ?_, ?_, ?_⟩ <;> simp only [I2, madd, msc, vadd, vmul, proj, r12e, zlin, zacross, zrows, zbot, Rat.natCast_mul, Rat.intCast_add, Rat.intCast_mul, Rat.intCast_neg, hc] <;> simp <;> grind
    · refine ⟨Nat.mul_pos (by decide) hs, ?_, ?_, ?_, ?_⟩ <;> simp only [I2, madd, msc, vadd, vmul, proj, r45e, r25e, r15e, zlin, zacross, zrows, zbot, Rat.natCast_mul, Rat.intCast_add, Rat.intCast_mul, Rat.intCast_neg, hc] <;> simp <;> grind
  · simp only [if_neg hk]
    cases pt
    · refine ⟨show 0 < zbot .a by decide, ?_, ?_, ?_, ?_⟩ <;> simp only [I2, madd, msc, vadd, vmul, proj, zlin, zacross, zrows, zbot, Rat.natCast_mul, Rat.intCast_add, Rat.intCast_mul, Rat.intCast_neg, hc] <;> simp <;> grind
    · refine ⟨show 0 < zbot .b by decide, ?_, ?_, ?_, ?_⟩ <;> simp only [I2, madd, msc, vadd, vmul, proj, r12e, zlin, zacross, zrows, zbot, Rat.natCast_mul, Rat.intCast_add, Rat.intCast_mul, Rat.intCast_neg, hc] <;> simp <;> grind
    · refine ⟨show 0 < zbot .c by decide, ?_, ?_, ?_, ?_⟩ <;> simp only [I2, madd, msc, vadd, vmul, proj, r45e, r25e, r15e, zlin, zacross, zrows, zbot, Rat.natCast_mul, Rat.intCast_add, Rat.intCast_mul, Rat.intCast_neg, hc] <;> simp <;> grind
/-- the law's flow of a row -/
def zflown (p S u : Nat) (Z : Z2 × Nat) (ls : List Lk) : Z2 × Nat := ls.foldl (fun Z l => (zmul Z.1 (zflow p l.1 (cn S u l)).1, Z.2 * (zflow p l.1 (cn S u l)).2)) Z
def zI : Z2 × Nat := (((1, 0), (0, 1)), 1)
theorem is_flown (p S u : Nat) : ∀ (ls : List Lk) (m : M2) (Z : Z2 × Nat), Is m Z → Is (flowsFrom p S u m ls) (zflown p S u Z ls)
  | [], m, Z, h => h
  | l :: ls, m, Z, h => is_flown p S u ls _ _ (h.mul (is_flow p l.1 (cn S u l)))
theorem is_flowOf (p S u : Nat) (ls : List Lk) : Is (flowOf p S u ls) (zflown p S u zI ls) := is_flown p S u ls I2 zI is_I
/-- a size of an int matrix and its divisor -/
def Zs (n : Nat) (Z : Z2 × Nat) : Prop := Z.1.1.1.natAbs ≤ 2 ^ n ∧ Z.1.1.2.natAbs ≤ 2 ^ n ∧ Z.1.2.1.natAbs ≤ 2 ^ n ∧ Z.1.2.2.natAbs ≤ 2 ^ n ∧ Z.2 ≤ 2 ^ n
theorem Zs.mono {n m : Nat} {Z : Z2 × Nat} (h : Zs n Z) (l : n ≤ m) : Zs m Z := by
  have e : 2 ^ n ≤ 2 ^ m := Nat.pow_le_pow_right (by decide) l
  exact ⟨Nat.le_trans h.1 e, Nat.le_trans h.2.1 e, Nat.le_trans h.2.2.1 e, Nat.le_trans h.2.2.2.1 e, Nat.le_trans h.2.2.2.2 e⟩
theorem dot_le {a b c d : Int} {n m : Nat} (h1 : a.natAbs ≤ 2 ^ n) (h2 : b.natAbs ≤ 2 ^ m) (h3 : c.natAbs ≤ 2 ^ n) (h4 : d.natAbs ≤ 2 ^ m) : (a * b + c * d).natAbs ≤ 2 ^ (n + m + 1) := by
  refine Nat.le_trans (Int.natAbs_add_le _ _) ?_
  rw [Int.natAbs_mul, Int.natAbs_mul, Nat.pow_succ, Nat.pow_add]
  have e1 := Nat.mul_le_mul h1 h2
  have e2 := Nat.mul_le_mul h3 h4
  omega
theorem Zs.mul {n m : Nat} {Z W : Z2 × Nat} (h : Zs n Z) (h' : Zs m W) : Zs (n + m + 1) (zmul Z.1 W.1, Z.2 * W.2) := by
  obtain ⟨a1, a2, a3, a4, a5⟩ := h
  obtain ⟨b1, b2, b3, b4, b5⟩ := h'
  refine ⟨dot_le a1 b1 a2 b3, dot_le a1 b2 a2 b4, dot_le a3 b1 a4 b3, dot_le a3 b2 a4 b4, ?_⟩
  show Z.2 * W.2 ≤ _
  rw [Nat.pow_succ, Nat.pow_add]
  have := Nat.mul_le_mul a5 b5
  omega
theorem zs_I : Zs 0 zI := ⟨by decide, by decide, by decide, by decide, by decide⟩
theorem zs_flow {p : Nat} {pt : Pt} {k : Int} {n : Nat} (h : p * k.natAbs ≤ n) : Zs (n + 4) (zflow p pt k) := by
  have e : (2 : Nat) ^ (p * k.natAbs) ≤ 2 ^ n := Nat.pow_le_pow_right (by decide) h
  have e1 : 1 ≤ (2 : Nat) ^ n := Nat.one_le_two_pow
  have e0 : 1 ≤ (2 : Nat) ^ (p * k.natAbs) := Nat.one_le_two_pow
  unfold zflow
  unfold Zs
  rw [Nat.pow_add]
  generalize (2 : Nat) ^ (p * k.natAbs) = s at *
  generalize (2 : Nat) ^ n = t at *
  by_cases hk : 0 ≤ k
  · simp only [if_pos hk]
    cases pt <;> simp only [zlin, zacross, zrows, zbot] <;> refine ⟨?_, ?_, ?_, ?_, ?_⟩ <;> omega
  · simp only [if_neg hk]
    cases pt <;> simp only [zlin, zacross, zrows, zbot] <;> refine ⟨?_, ?_, ?_, ?_, ?_⟩ <;> omega
theorem zs_flown {p S u n : Nat} : ∀ (ls : List Lk) (Z : Z2 × Nat) (m : Nat), Zs m Z → (∀ l ∈ ls, p * (cn S u l).natAbs ≤ n) → Zs (m + ls.length * (n + 5)) (zflown p S u Z ls)
  | [], Z, m, h, _ => by
    show Zs (m + 0 * (n + 5)) Z
    rw [Nat.zero_mul]
    exact h
  | l :: ls, Z, m, h, hl => by
    have h1 := h.mul (zs_flow (pt := l.1) (hl l (by simp)))
    have h2 := zs_flown ls _ _ h1 fun x hx => hl x (by simp [hx])
    refine Zs.mono h2 ?_
    rw [List.length_cons, Nat.add_mul]
    omega
/-- a fraction is no larger than what it is made of -/
theorem is_sz {x : Rat} {i : Int} {s n : Nat} (h0 : 0 < s) (h : x * (s : Rat) = i) (h1 : i.natAbs ≤ 2 ^ n) (h2 : s ≤ 2 ^ n) : x.num.natAbs < 2 ^ (n + 1) ∧ x.den < 2 ^ (n + 1) := by
  have hs : (s : Rat) ≠ 0 := by
    intro z
    have : (s : Int) = 0 := by exact_mod_cast z
    omega
  have e : x = mkRat i s := by
    rw [Rat.mkRat_eq_div]
    grind
  rw [e, Rat.num_mkRat, Rat.den_mkRat, if_neg (by omega), if_neg (by omega), Nat.pow_succ]
  have a3 : 1 ≤ 2 ^ n := Nat.one_le_two_pow
  refine ⟨Nat.lt_of_le_of_lt (Int.natAbs_ediv_le_natAbs _ _) (by omega), Nat.lt_of_le_of_lt (Nat.div_le_self _ _) (by omega)⟩
end W86
end
section
set_option Elab.async false
set_option linter.all false
set_option maxRecDepth 100000
set_option maxHeartbeats 1000000
set_option exponentiation.threshold 100000
/-! WI: the law's own numbers. -/
namespace W86
open PySem PySem.Spec PyProof.Rows L2 Evl DL
open He (ga ma)
open He5 (wf)
/-- a well: how far it is read, its ints -/
abbrev Well := Nat × List Int
def wellO (q : Well) : Ow := .lst [.int q.1, .lst (q.2.map D.int)]
def pullV (q : Well) (top : Int) : Int := match q.2[q.1]? with
  | some i => i % top
  | none => 0
def pullW (q : Well) : Well := (q.1 + 1, q.2)
section
variable {P : Program} {w : World} {K : Fr} {mg : Str → Option Value} {base : Heap}
theorem atI_nat' {α : Type} {xs : List α} {i : Nat} {x : α} (h : xs[i]? = some x) : atI xs (i : Int) = some x := by
  have hi := (List.getElem?_eq_some_iff.mp h).1
  unfold atI ixN
  rw [if_pos (by omega), if_pos (by omega), Option.bind_some, Int.toNat_natCast]
  exact h
def cw_l_pull (K : Fr) : Cw := ⟨Well × Int, fun a => wellO a.1, fun a => [.int a.2], fun a => 0 < a.2 ∧ a.1.2.length ≤ 100000, fun a => .fr (.int (pullV a.1 a.2)), fun a => wellO (pullW a.1)⟩
theorem ok_l_pull (T : Tx K mg) {fd : FuncData} (F : L2.FunD K a_l_pull.name a_l_pull.qual a_l_pull.params a_l_pull.body a_l_pull.scope [] [] (ga K "_law_pull") fd) : FnOk P w K mg base CX0 1 (ga K "_law_pull") fd ["well", "top"] ((cw_l_pull K).sp K) := by
  refine cw_ok F sc_l_pull (fun a => rfl) fun cdv A outer s H E hr => ?_
  refine ⟨_, _, (pdss_cons (pds_set 2 (pd_ix ix_seq vo_ix (pd_name 0) pd_int (fun _ _ => rfl)) sc_l_pull.nd)
  (pdss_cons (pds_set 3 (pd_ix ix_seq vo_ix (pd_name 0) pd_int (fun _ _ => rfl)) sc_l_pull.nd)
  (pdss_cons (pds_setIx 0 (pd_op op_addA vo_add (pd_name 2) pd_int) pd_int)
  (pdss_cons (pds_if (pdt_cmp op_ge vo_cmp (pd_name 2) (pd_callB1 call_lenA vo_len T.b_len (pd_name 3)) (nomark _)) (pdss_one (pds_ret pd_int)) pdss_nil)
  (pdss_one (pds_ret (pd_op op_mod vo_mod (pd_callTy1 call_int1 vo_int T.b_int (pd_ix ix_seq vo_ix (pd_name 3) (pd_name 2) (fun _ _ => rfl))) (pd_name 1)))))))), ?_⟩
  rintro ⟨⟨i, xs⟩, top⟩ ⟨h, hl⟩
  have h : 0 < top := h
  refine ite2 (fun h' => ?_) (fun h' => ?_)
  · have h' : (((xs.map D.int).length : Nat) : Int) ≤ (i : Int) := of_decide_eq_true h'
    rw [List.length_map] at h'
    have e : xs[i]? = none := List.getElem?_eq_none (by omega)
    refine ⟨?_, rfl⟩
    show Res.fr (.int (pullV (i, xs) top)) = Res.fr (.int 0)
    unfold pullV
    rw [show (i, xs).2[(i, xs).1]? = none from e]
  · have h' : ¬ (((xs.map D.int).length : Nat) : Int) ≤ (i : Int) := fun z => h' (decide_eq_true z)
    rw [List.length_map] at h'
    have e : xs[i]? = some (xs[i]'(by omega)) := List.getElem?_eq_getElem (by omega)
    refine ob_iff.mpr ⟨.int (xs[i]'(by omega)), atI_nat' (by rw [List.getElem?_map, e]; rfl), ?_⟩
    refine ⟨h, ?_, rfl⟩
    show Res.fr (.int (pullV (i, xs) top)) = Res.fr (.int ((xs[i]'(by omega)) % top))
    unfold pullV
    rw [show (i, xs).2[(i, xs).1]? = some (xs[i]'(by omega)) from e]
theorem d_l_pull (T : Tx K mg) : Gd P w K mg base "_law_pull" 1 [] ((cw_l_pull K).sp K) := by
  obtain ⟨fd, F⟩ := T.d_l_pull
  exact gd_of T.g_l_pull F.kp (F.bindsN fun _ _ _ _ _ _ us hl => match us, hl with | [_, _], _ => rfl) (ok_l_pull T F)
theorem mod_half {u v : Nat} (h : 0 < v) (h' : v ≤ u) : 2 * (u % v) ≤ u := by
  have h1 := Nat.mod_lt u h
  have h2 := Nat.mod_add_div u v
  have h3 : 1 ≤ u / v := (Nat.one_le_div_iff h).mpr h'
  have h4 : v * 1 ≤ v * (u / v) := Nat.mul_le_mul_left v h3
  omega
/-- the law's own gcd -/
def ct_l_gcd (K : Fr) : Ct := ⟨Int × Int, fun a => [.int a.1, .int a.2], fun a => a.1.natAbs < 2 ^ 4000 ∧ a.2.natAbs < 2 ^ 4000, fun a => .fr (.int (Int.gcd a.1 a.2))⟩
theorem ok_l_gcd (T : Tx K mg) {fd : FuncData} (F : L2.FunD K a_l_gcd.name a_l_gcd.qual a_l_gcd.params a_l_gcd.body a_l_gcd.scope [] [] (ga K "_law_gcd") fd) : FnOk P w K mg base CX0 1 (ga K "_law_gcd") fd ["one", "two"] ((ct_l_gcd K).sp K) := by
  refine ct_ok F sc_l_gcd (fun a => rfl) fun cdv A outer s H E hr => ?_
  refine ⟨_, _, (pdss_cons (pds_set 2 (pd_callB1 call_abs vo_abs T.b_abs (pd_name 0)) sc_l_gcd.nd)
  (pdss_cons (pds_set 3 (pd_callB1 call_abs vo_abs T.b_abs (pd_name 1)) sc_l_gcd.nd)
  (pdss_cons (pds_for PassesOwn.never rfl (pdi_range1 T.b_range (pda_cons (pd_op op_addA vo_add (pd_op op_addA vo_add (pd_op op_mulA vo_mul pd_int (pd_bits (pd_name 2))) (pd_op op_mulA vo_mul pd_int (pd_bits (pd_name 3)))) pd_int) pda_nil)) (pdg_name 4 sc_l_gcd.nd)
  (pdss_cons (pds_if (pdt_cmp (op_eqD hr.units) vo_eq (pd_name 3) pd_int (nomark _)) (pdss_one (pds_ret (pd_name 2))) pdss_nil)
  (pdss_cons (pds_set 5 (pd_op op_mod vo_mod (pd_callTy1 call_int1 vo_int T.b_int (pd_name 2)) (pd_name 3)) sc_l_gcd.nd)
  (pdss_cons (pds_set 2 (pd_name 3) sc_l_gcd.nd)
  (pdss_one (pds_set 3 (pd_name 5) sc_l_gcd.nd))))))
  (pdss_one (pds_ret (pd_name 2)))))), ?_⟩
  rintro ⟨a, b⟩ ⟨ha, hb⟩
  have ha : a.natAbs < 2 ^ 4000 := ha
  have hb : b.natAbs < 2 ^ 4000 := hb
  have e9 : (4000 : Nat) < 2 ^ 100 := by decide
  have ba : Builtin.Int.intBits (if a < 0 then -a else a) ≤ 4000 := by rw [abs_nat]; exact intBits_le (by simpa using ha)
  have bb : Builtin.Int.intBits (if b < 0 then -b else b) ≤ 4000 := by rw [abs_nat]; exact intBits_le (by simpa using hb)
  have ca : a.natAbs < 2 ^ Builtin.Int.intBits (if a < 0 then -a else a) := by
    have := natAbs_lt_pow_bits (if a < 0 then -a else a)
    rw [abs_nat, Int.natAbs_natCast] at this
    rw [abs_nat]
    exact this
  have cb : b.natAbs < 2 ^ Builtin.Int.intBits (if b < 0 then -b else b) := by
    have := natAbs_lt_pow_bits (if b < 0 then -b else b)
    rw [abs_nat, Int.natAbs_natCast] at this
    rw [abs_nat]
    exact this
  refine ⟨mulS (by decide) (show ((Builtin.Int.intBits (if a < 0 then -a else a) : Nat) : Int).natAbs < 2 ^ 100 by omega), mulS (by decide) (show ((Builtin.Int.intBits (if b < 0 then -b else b) : Nat) : Int).natAbs < 2 ^ 100 by omega), ?_⟩
  refine ⟨show 2 * ((Builtin.Int.intBits (if a < 0 then -a else a) : Nat) : Int) + 2 * ((Builtin.Int.intBits (if b < 0 then -b else b) : Nat) : Int) + 10 ≤ 100000 ∧ -100000 ≤ 2 * ((Builtin.Int.intBits (if a < 0 then -a else a) : Nat) : Int) + 2 * ((Builtin.Int.intBits (if b < 0 then -b else b) : Nat) : Int) + 10 by omega, ?_⟩
  generalize hA : Builtin.Int.intBits (if a < 0 then -a else a) = A at *
  generalize hB : Builtin.Int.intBits (if b < 0 then -b else b) = B at *
  refine forD_rng (fun i ρ => ∃ (u v : Nat) (s4 s5 : Sl), ρ = [.fr (.int a), .fr (.int b), .fr (.int u), .fr (.int v), s4, s5] ∧ Nat.gcd u v = Int.gcd a b ∧ (v = 0 ∨ (i = 0 ∧ u * v < 2 ^ (A + B)) ∨ v < u) ∧ u * v < 2 ^ (A + B + 1 - i)) ⟨a.natAbs, b.natAbs, .un, .un, ?_, rfl, .inr (.inl ⟨rfl, by rw [Nat.pow_add]; exact Nat.mul_lt_mul'' ca cb⟩), ?_⟩ ?_ ?_
  · show [_, _, Sl.fr (.int (if a < 0 then -a else a)), Sl.fr (.int (if b < 0 then -b else b)), _, _] = _
    rw [abs_nat, abs_nat]
  · have : a.natAbs * b.natAbs < 2 ^ (A + B) := by rw [Nat.pow_add]; exact Nat.mul_lt_mul'' ca cb
    rw [Nat.sub_zero, Nat.pow_succ]
    omega
  · rintro i ρ hi ⟨u, v, s4, s5, rfl, e1, e2, e3⟩ nx hn
    refine ite2 (fun h => ?_) (fun h => ?_)
    · have h : (v : Int) = 0 := of_decide_eq_true (eqI ▸ h)
      have h : v = 0 := by omega
      subst h
      rw [Nat.gcd_zero_right] at e1
      subst e1
      rfl
    · have h : ¬ (v : Int) = 0 := fun z => h (by rw [eqI]; exact decide_eq_true z)
      have hv : 0 < v := by omega
      refine ⟨show (0 : Int) < (v : Int) by omega, ?_⟩
      refine hn _ ⟨v, u % v, .fr (.int (0 + (i : Int))), .fr (.int ((u : Int) % (v : Int))), ?_, ?_, .inr (.inr (Nat.mod_lt u hv)), ?_⟩
      · show [_, _, Sl.fr (.int (v : Int)), Sl.fr (.int ((u : Int) % (v : Int))), _, _] = _
        rfl
      · rw [← e1, Nat.gcd_comm u v, Nat.gcd_rec v u, Nat.gcd_comm]
      · by_cases hvu : v ≤ u
        · have h2 := mod_half hv hvu
          have h3 : 2 * (v * (u % v)) ≤ u * v := by
            rw [show 2 * (v * (u % v)) = v * (2 * (u % v)) from by rw [← Nat.mul_assoc, Nat.mul_comm 2 v, Nat.mul_assoc], Nat.mul_comm u v]
            exact Nat.mul_le_mul_left v h2
          have h4 : 1 ≤ u * v := Nat.mul_pos (by omega) hv
          have h5 : A + B + 1 - i ≠ 0 := fun z => by
            rw [z] at e3
            omega
          have h6 : A + B + 1 - i = (A + B + 1 - (i + 1)) + 1 := by omega
          rw [h6, Nat.pow_succ] at e3
          omega
        · rcases e2 with e2 | ⟨hi0, e4⟩ | e2
          · omega
          · subst hi0
            rw [Nat.mod_eq_of_lt (by omega), Nat.mul_comm]
            exact e4
          · omega
  · rintro ρ ⟨u, v, s4, s5, rfl, e1, e2, e3⟩
    have hz : v = 0 := by
      have hn : A + B + 1 - (2 * (A : Int) + 2 * (B : Int) + 10).toNat = 0 := by omega
      have e3 : u * v < 2 ^ (A + B + 1 - (2 * (A : Int) + 2 * (B : Int) + 10).toNat) := e3
      rw [hn] at e3
      rcases e2 with e2 | ⟨e2, _⟩ | e2
      · exact e2
      · have e2 : (2 * (A : Int) + 2 * (B : Int) + 10).toNat = 0 := e2
        omega
      · apply Classical.byContradiction
        intro z
        have : 1 ≤ u * v := Nat.mul_pos (by omega) (by omega)
        omega
    subst hz
    rw [Nat.gcd_zero_right] at e1
    subst e1
    rfl
theorem d_l_gcd (T : Tx K mg) : Gd P w K mg base "_law_gcd" 1 [] ((ct_l_gcd K).sp K) := by
  obtain ⟨fd, F⟩ := T.d_l_gcd
  exact gd_of T.g_l_gcd F.kp (F.bindsN fun _ _ _ _ _ _ us hl => match us, hl with | [_, _], _ => rfl) (ok_l_gcd T F)
def ct_l_neg (K : Fr) : Ct := ⟨Rat, fun x => [num x], fun _ => True, fun x => .fr (num (-x))⟩
theorem ok_l_neg (T : Tx K mg) {fd : FuncData} (F : L2.FunD K a_l_neg.name a_l_neg.qual a_l_neg.params a_l_neg.body a_l_neg.scope [] [] (ga K "_law_neg") fd) : FnOk P w K mg base CX0 1 (ga K "_law_neg") fd ["one"] ((ct_l_neg K).sp K) := by
  refine ct_ok F sc_l_neg (fun a => rfl) fun cdv A outer s H E hr => ?_
  refine ⟨_, _, (pdss_one (pds_ret (pd_tup (pda_cons (pd_un un_neg vo_neg (pd_ix ix_seq vo_ix (pd_name 0) pd_int (fun _ _ => rfl))) (pda_cons (pd_ix ix_seq vo_ix (pd_name 0) pd_int (fun _ _ => rfl)) pda_nil))))), ?_⟩
  exact fun x _ => rfl
theorem d_l_neg (T : Tx K mg) : Gd P w K mg base "_law_neg" 1 [] ((ct_l_neg K).sp K) := by
  obtain ⟨fd, F⟩ := T.d_l_neg
  exact gd_of T.g_l_neg F.kp (F.bindsN fun _ _ _ _ _ _ us hl => match us, hl with | [_], _ => rfl) (ok_l_neg T F)
def ct_l_whole (K : Fr) : Ct := ⟨Int, fun i => [.int i], fun _ => True, fun _ => .fr (.bl true)⟩
theorem ok_l_whole (T : Tx K mg) {fd : FuncData} (F : L2.FunD K a_l_whole.name a_l_whole.qual a_l_whole.params a_l_whole.body a_l_whole.scope [] [] (ga K "_law_whole") fd) : FnOk P w K mg base CX0 1 (ga K "_law_whole") fd ["told"] ((ct_l_whole K).sp K) := by
  refine ct_ok F sc_l_whole (fun a => rfl) fun cdv A outer s H E hr => ?_
  refine ⟨_, _, (pdss_one (pds_ret (pd_and (pd_isB k_int T.b_isinstance T.b_int (pd_name 0)) (pd_one (pd_not (pd_isB k_bool T.b_isinstance T.b_bool (pd_name 0))))))), ?_⟩
  exact fun i _ => rfl
theorem d_l_whole (T : Tx K mg) : Gd P w K mg base "_law_whole" 1 [] ((ct_l_whole K).sp K) := by
  obtain ⟨fd, F⟩ := T.d_l_whole
  exact gd_of T.g_l_whole F.kp (F.bindsN fun _ _ _ _ _ _ us hl => match us, hl with | [_], _ => rfl) (ok_l_whole T F)
/-- a link of the law's -/
def llD (S : Nat) (l : Lk) : D := .tup [.str l.1.s, num (len S l.2), P1, P1]
def ct_l_true (K : Fr) : Ct := ⟨Pt × Rat, fun a => [.str a.1.s, num a.2], fun _ => True, fun a => .fr (.tup [.str a.1.s, num a.2, P1, P1])⟩
theorem ok_l_true (T : Tx K mg) {fd : FuncData} (F : L2.FunD K a_l_true.name a_l_true.qual a_l_true.params a_l_true.body a_l_true.scope [] [] (ga K "_law_true") fd) : FnOk P w K mg base CX0 1 (ga K "_law_true") fd ["part", "time"] ((ct_l_true K).sp K) := by
  refine ct_ok F sc_l_true (fun a => rfl) fun cdv A outer s H E hr => ?_
  refine ⟨_, _, (pdss_one (pds_ret (pd_tup (pda_cons (pd_name 0) (pda_cons (pd_name 1) (pda_cons (pd_tup (pda_cons (pd_tup (pda_cons pd_int (pda_cons pd_int pda_nil))) pda_nil)) (pda_cons (pd_tup (pda_cons (pd_tup (pda_cons pd_int (pda_cons pd_int pda_nil))) pda_nil)) pda_nil))))))), ?_⟩
  exact fun a _ => rfl
theorem d_l_true (T : Tx K mg) : Gd P w K mg base "_law_true" 1 [] ((ct_l_true K).sp K) := by
  obtain ⟨fd, F⟩ := T.d_l_true
  exact gd_of T.g_l_true F.kp (F.bindsN fun _ _ _ _ _ _ us hl => match us, hl with | [_, _], _ => rfl) (ok_l_true T F)
def ct_l_frac (K : Fr) : Ct := ⟨Int × Int, fun a => [.int a.1, .int a.2], fun a => 0 < a.2 ∧ a.1.natAbs < 2 ^ 4000 ∧ a.2.natAbs < 2 ^ 4000, fun a => .fr (num (Rat.divInt a.1 a.2))⟩
theorem ok_l_frac (T : Tx K mg) {fd : FuncData} (F : L2.FunD K a_l_frac.name a_l_frac.qual a_l_frac.params a_l_frac.body a_l_frac.scope [] [] (ga K "_law_frac") fd) : FnOk P w K mg base CX0 2 (ga K "_law_frac") fd ["top", "bottom"] ((ct_l_frac K).sp K) := by
  refine ct_ok F sc_l_frac (fun a => rfl) fun cdv A outer s H E hr => ?_
  refine ⟨_, _, (pdss_cons (pds_if (pdt_cmp op_lt vo_cmp (pd_name 1) pd_int (nomark _)) (pdss_cons (pds_set 0 (pd_un un_neg vo_neg (pd_name 0)) sc_l_frac.nd)
  (pdss_one (pds_set 1 (pd_un un_neg vo_neg (pd_name 1)) sc_l_frac.nd))) pdss_nil)
  (pdss_cons (pds_set 2 (pd_call (d_l_gcd T) (hr.mono (by decide)) (pda_cons (pd_name 0) (pda_cons (pd_name 1) pda_nil))) sc_l_frac.nd)
  (pdss_one (pds_ret (pd_tup (pda_cons (pd_op op_fdivW vo_fdiv (pd_name 0) (pd_name 2)) (pda_cons (pd_op op_fdivW vo_fdiv (pd_name 1) (pd_name 2)) pda_nil))))))), ?_⟩
  rintro ⟨p, q⟩ ⟨h1, h2, h3⟩
  have h1 : 0 < q := h1
  have h2 : p.natAbs < 2 ^ 4000 := h2
  have h3 : q.natAbs < 2 ^ 4000 := h3
  have g0 : 0 < Int.gcd p q := Int.gcd_pos_of_ne_zero_right p (by omega)
  have g1 : Int.gcd p q ≤ q.natAbs := Int.gcd_le_natAbs_right p (by omega)
  have e9 : (2 : Nat) ^ 4000 ≤ 2 ^ 9000 := Nat.pow_le_pow_right (by decide) (by decide)
  have gg : CDivW p (Int.gcd p q : Nat) ∧ CDivW q (Int.gcd p q : Nat) := ⟨div_ok (by omega) (by simp; omega), div_ok (by omega) (by simp; omega)⟩
  refine iteF' (fun h => ?_) ?_
  · have h : q < 0 := of_decide_eq_true h
    omega
  · refine ⟨(p, q), rfl, ⟨h2, h3⟩, gg.1, gg.2, ?_⟩
    exact congrArg Res.fr (num_divInt' h1)
theorem d_l_frac (T : Tx K mg) : Gd P w K mg base "_law_frac" 2 [] ((ct_l_frac K).sp K) := by
  obtain ⟨fd, F⟩ := T.d_l_frac
  exact gd_of T.g_l_frac F.kp (F.bindsN fun _ _ _ _ _ _ us hl => match us, hl with | [_, _], _ => rfl) (ok_l_frac T F)
theorem szm {x y : Rat} (h : Sz 900 x) (h' : Sz 900 y) : CMul x.num y.num ∨ CMulW x.num y.num := Two.nn ⟨900, 900, h, h', by decide⟩
def ct_l_add (K : Fr) : Ct := ⟨Rat × Rat, fun a => [num a.1, num a.2], fun a => Sz 900 a.1 ∧ Sz 900 a.2, fun a => .fr (num (a.1 + a.2))⟩
theorem p1800 {a b : Nat} (h : a < 2 ^ 900) (h' : b < 2 ^ 900) : a * b < 2 ^ 1800 := by
  have := Nat.mul_lt_mul'' h h'
  rw [← Nat.pow_add] at this
  exact this
theorem e1802 : (2 : Nat) ^ 1800 + 2 ^ 1800 < 2 ^ 4000 := by decide +kernel
theorem ok_l_add (T : Tx K mg) {fd : FuncData} (F : L2.FunD K a_l_add.name a_l_add.qual a_l_add.params a_l_add.body a_l_add.scope [] [] (ga K "_law_add") fd) : FnOk P w K mg base CX0 3 (ga K "_law_add") fd ["one", "two"] ((ct_l_add K).sp K) := by
  refine ct_ok F sc_l_add (fun a => rfl) fun cdv A outer s H E hr => ?_
  refine ⟨_, _, (pdss_one (pds_ret (pd_call (d_l_frac T) (hr.mono (by decide)) (pda_cons (pd_op op_addA vo_add (pd_op op_mulA vo_mul (pd_ix ix_seq vo_ix (pd_name 0) pd_int (fun _ _ => rfl)) (pd_ix ix_seq vo_ix (pd_name 1) pd_int (fun _ _ => rfl))) (pd_op op_mulA vo_mul (pd_ix ix_seq vo_ix (pd_name 1) pd_int (fun _ _ => rfl)) (pd_ix ix_seq vo_ix (pd_name 0) pd_int (fun _ _ => rfl)))) (pda_cons (pd_op op_mulA vo_mul (pd_ix ix_seq vo_ix (pd_name 0) pd_int (fun _ _ => rfl)) (pd_ix ix_seq vo_ix (pd_name 1) pd_int (fun _ _ => rfl))) pda_nil))))), ?_⟩
  rintro ⟨x, y⟩ ⟨h1, h2⟩
  have h1 : Sz 900 x := h1
  have h2 : Sz 900 y := h2
  have hp : Two x y := ⟨900, 900, h1, h2, by decide⟩
  have q1 := p1800 h1.1 h2.2
  have q2 := p1800 h2.1 h1.2
  have q3 := p1800 h1.2 h2.2
  have e := e1802
  refine ⟨hp.nd, hp.symm.nd, hp.dd, (_, _), rfl, ⟨dd_pos x y, ?_, ?_⟩, ?_⟩
  · show (x.num * (y.den : Int) + y.num * (x.den : Int)).natAbs < 2 ^ 4000
    refine Nat.lt_of_le_of_lt (Int.natAbs_add_le _ _) ?_
    rw [Int.natAbs_mul, Int.natAbs_mul, Int.natAbs_natCast, Int.natAbs_natCast]
    omega
  · show ((x.den : Int) * (y.den : Int)).natAbs < 2 ^ 4000
    rw [Int.natAbs_mul, Int.natAbs_natCast, Int.natAbs_natCast]
    omega
  · exact congrArg Res.fr (congrArg num (add_dd x y).symm)
theorem d_l_add (T : Tx K mg) : Gd P w K mg base "_law_add" 3 [] ((ct_l_add K).sp K) := by
  obtain ⟨fd, F⟩ := T.d_l_add
  exact gd_of T.g_l_add F.kp (F.bindsN fun _ _ _ _ _ _ us hl => match us, hl with | [_, _], _ => rfl) (ok_l_add T F)
def ct_l_mul (K : Fr) : Ct := ⟨Rat × Rat, fun a => [num a.1, num a.2], fun a => Sz 900 a.1 ∧ Sz 900 a.2, fun a => .fr (num (a.1 * a.2))⟩
theorem ok_l_mul (T : Tx K mg) {fd : FuncData} (F : L2.FunD K a_l_mul.name a_l_mul.qual a_l_mul.params a_l_mul.body a_l_mul.scope [] [] (ga K "_law_mul") fd) : FnOk P w K mg base CX0 3 (ga K "_law_mul") fd ["one", "two"] ((ct_l_mul K).sp K) := by
  refine ct_ok F sc_l_mul (fun a => rfl) fun cdv A outer s H E hr => ?_
  refine ⟨_, _, (pdss_one (pds_ret (pd_call (d_l_frac T) (hr.mono (by decide)) (pda_cons (pd_op op_mulA vo_mul (pd_ix ix_seq vo_ix (pd_name 0) pd_int (fun _ _ => rfl)) (pd_ix ix_seq vo_ix (pd_name 1) pd_int (fun _ _ => rfl))) (pda_cons (pd_op op_mulA vo_mul (pd_ix ix_seq vo_ix (pd_name 0) pd_int (fun _ _ => rfl)) (pd_ix ix_seq vo_ix (pd_name 1) pd_int (fun _ _ => rfl))) pda_nil))))), ?_⟩
  rintro ⟨x, y⟩ ⟨h1, h2⟩
  have h1 : Sz 900 x := h1
  have h2 : Sz 900 y := h2
  have hp : Two x y := ⟨900, 900, h1, h2, by decide⟩
  have q1 := p1800 h1.1 h2.1
  have q3 := p1800 h1.2 h2.2
  have e := e1802
  refine ⟨hp.nn, hp.dd, (_, _), rfl, ⟨dd_pos x y, ?_, ?_⟩, ?_⟩
  · show (x.num * y.num).natAbs < 2 ^ 4000
    rw [Int.natAbs_mul]
    omega
  · show ((x.den : Int) * (y.den : Int)).natAbs < 2 ^ 4000
    rw [Int.natAbs_mul, Int.natAbs_natCast, Int.natAbs_natCast]
    omega
  · exact congrArg Res.fr (congrArg num (mul_dd x y).symm)
theorem d_l_mul (T : Tx K mg) : Gd P w K mg base "_law_mul" 3 [] ((ct_l_mul K).sp K) := by
  obtain ⟨fd, F⟩ := T.d_l_mul
  exact gd_of T.g_l_mul F.kp (F.bindsN fun _ _ _ _ _ _ us hl => match us, hl with | [_, _], _ => rfl) (ok_l_mul T F)
def ct_l_is_frac (K : Fr) : Ct := ⟨Rat, fun x => [num x], fun x => Sz 4000 x, fun _ => .fr (.bl true)⟩
theorem ok_l_is_frac (T : Tx K mg) {fd : FuncData} (F : L2.FunD K a_l_is_frac.name a_l_is_frac.qual a_l_is_frac.params a_l_is_frac.body a_l_is_frac.scope [] [] (ga K "_law_is_frac") fd) : FnOk P w K mg base CX0 2 (ga K "_law_is_frac") fd ["told"] ((ct_l_is_frac K).sp K) := by
  refine ct_ok F sc_l_is_frac (fun a => rfl) fun cdv A outer s H E hr => ?_
  refine ⟨_, _, (pdss_cons (pds_if (PDW.pdt (pdw_or (pdt_not (pdt_val (pd_isB k_tup T.b_isinstance T.b_tuple (pd_name 0)))) (pdw_or1 (pdt_cmp (op_neD hr.units) vo_ne (pd_callB1 call_lenA vo_len T.b_len (pd_name 0)) pd_int (nomark _))))) (pdss_one (pds_ret pd_bl)) pdss_nil)
  (pdss_cons (pds_if (PDW.pdt (pdw_or (pdt_not (pdt_val (pd_call (d_l_whole T) (hr.mono (by decide)) (pda_cons (pd_ix ix_seq vo_ix (pd_name 0) pd_int (fun _ _ => rfl)) pda_nil)))) (pdw_or1 (pdt_not (pdt_val (pd_call (d_l_whole T) (hr.mono (by decide)) (pda_cons (pd_ix ix_seq vo_ix (pd_name 0) pd_int (fun _ _ => rfl)) pda_nil))))))) (pdss_one (pds_ret pd_bl)) pdss_nil)
  (pdss_one (pds_ret (pd_and (pd_cmp op_ge vo_cmp (pd_ix ix_seq vo_ix (pd_name 0) pd_int (fun _ _ => rfl)) pd_int (nomark _)) (pd_one (pd_cmp (op_eqD hr.units) vo_eq (pd_call (d_l_gcd T) (hr.mono (by decide)) (pda_cons (pd_ix ix_seq vo_ix (pd_name 0) pd_int (fun _ _ => rfl)) (pda_cons (pd_ix ix_seq vo_ix (pd_name 0) pd_int (fun _ _ => rfl)) pda_nil))) pd_int (nomark _)))))))), ?_⟩
  rintro x hx
  have hx : Sz 4000 x := hx
  refine ⟨x.num, rfl, trivial, ?_⟩
  refine ⟨(x.den : Int), rfl, trivial, ?_⟩
  refine iteT' (decide_eq_true (by show (1 : Int) ≤ (x.den : Int); have := x.den_pos; omega)) ?_
  refine ⟨(x.num, (x.den : Int)), rfl, ⟨hx.1, by simpa using hx.2⟩, ?_⟩
  show Res.fr (.bl true) = Res.fr (.bl (PyData.eqv (.int (Int.gcd x.num x.den : Nat)) (.int 1)))
  rw [eqI, show Int.gcd x.num x.den = 1 from by have := x.reduced; unfold Nat.Coprime at this; unfold Int.gcd; simpa using this]
  rfl
theorem d_l_is_frac (T : Tx K mg) : Gd P w K mg base "_law_is_frac" 2 [] ((ct_l_is_frac K).sp K) := by
  obtain ⟨fd, F⟩ := T.d_l_is_frac
  exact gd_of T.g_l_is_frac F.kp (F.bindsN fun _ _ _ _ _ _ us hl => match us, hl with | [_], _ => rfl) (ok_l_is_frac T F)
end
end W86
end
section
set_option Elab.async false
set_option linter.all false
set_option maxRecDepth 100000
set_option maxHeartbeats 1000000
set_option exponentiation.threshold 100000
/-! WJ: the law's own rows. -/
namespace W86
open PySem PySem.Spec PyProof.Rows L2 Evl DL
open He (ga ma)
open He5 (wf)
section
variable {P : Program} {w : World} {K : Fr} {mg : Str → Option Value} {base : Heap}
def ct_l_is_row (K : Fr) : Ct := ⟨List Rat, fun xs => [.tup (xs.map num)], fun xs => ∀ x ∈ xs, Sz 4000 x, fun _ => .fr (.bl true)⟩
theorem ok_l_is_row (T : Tx K mg) {fd : FuncData} (F : L2.FunD K a_l_is_row.name a_l_is_row.qual a_l_is_row.params a_l_is_row.body a_l_is_row.scope [] [] (ga K "_law_is_row") fd) : FnOk P w K mg base CX0 3 (ga K "_law_is_row") fd ["told"] ((ct_l_is_row K).sp K) := by
  refine ct_ok F sc_l_is_row (fun a => rfl) fun cdv A outer s H E hr => ?_
  refine ⟨_, _, (pdss_cons (pds_if (pdt_not (pdt_val (pd_isB k_tup T.b_isinstance T.b_tuple (pd_name 0)))) (pdss_one (pds_ret pd_bl)) pdss_nil)
  (pdss_cons (pds_for PassesOwn.never rfl (pdi_seq (pd_name 0)) (pdg_name 1 sc_l_is_row.nd)
  (pdss_one (pds_if (pdt_not (pdt_val (pd_call (d_l_is_frac T) (hr.mono (by decide)) (pda_cons (pd_name 1) pda_nil)))) (pdss_one (pds_ret pd_bl)) pdss_nil)))
  (pdss_one (pds_ret pd_bl)))), ?_⟩
  rintro (xs : List Rat) h
  have h : ∀ x ∈ xs, Sz 4000 x := h
  refine forD_ind (f := num) (fun r ρ => ∃ s1, ρ = [.fr (.tup (xs.map num)), s1] ∧ ∀ x ∈ r, x ∈ xs) ⟨.un, rfl, fun x hx => hx⟩ ?_ ?_
  · rintro x r ρ ⟨s1, rfl, e⟩ nx hn
    refine ⟨x, rfl, h x (e x List.mem_cons_self), ?_⟩
    exact hn _ ⟨_, rfl, fun y hy => e y (List.mem_cons_of_mem _ hy)⟩
  · rintro ρ ⟨s1, rfl, e⟩
    rfl
theorem d_l_is_row (T : Tx K mg) : Gd P w K mg base "_law_is_row" 3 [] ((ct_l_is_row K).sp K) := by
  obtain ⟨fd, F⟩ := T.d_l_is_row
  exact gd_of T.g_l_is_row F.kp (F.bindsN fun _ _ _ _ _ _ us hl => match us, hl with | [_], _ => rfl) (ok_l_is_row T F)
def ct_l_trim (K : Fr) : Ct := ⟨Unit, fun _ => [.lst [num 1]], fun _ => True, fun _ => .fr P1⟩
theorem ok_l_trim (T : Tx K mg) {fd : FuncData} (F : L2.FunD K a_l_trim.name a_l_trim.qual a_l_trim.params a_l_trim.body a_l_trim.scope [] [] (ga K "_law_trim") fd) : FnOk P w K mg base CX0 1 (ga K "_law_trim") fd ["row"] ((ct_l_trim K).sp K) := by
  refine ct_ok F sc_l_trim (fun a => rfl) fun cdv A outer s H E hr => ?_
  refine ⟨_, _, (pdss_cons (pds_set 1 (pd_callB1 call_lenA vo_len T.b_len (pd_name 0)) sc_l_trim.nd)
  (pdss_cons (pds_for PassesOwn.never rfl (pdi_range1 T.b_range (pda_cons (pd_callB1 call_lenA vo_len T.b_len (pd_name 0)) pda_nil)) (pdg_name 2 sc_l_trim.nd)
  (pdss_one (pds_if (PDW.pdt (pdw_and (pdt_cmp op_gt vo_cmp (pd_name 1) pd_int (nomark _)) (pdw_and1 (pdt_cmp (op_eqD hr.units) vo_eq (pd_ix ix_seq vo_ix (pd_ix ix_seq vo_ix (pd_name 0) (pd_op op_sub vo_sub (pd_name 1) pd_int) (fun _ _ => rfl)) pd_int (fun _ _ => rfl)) pd_int (nomark _))))) (pdss_one (pds_set 1 (pd_op op_sub vo_sub (pd_name 1) pd_int) sc_l_trim.nd)) pdss_nil)))
  (pdss_one (pds_ret (pd_callTy1 call_tuple_of vo_tupOf T.b_tuple (pd_lc [("spot", 3)] 3 rfl sc_l_trim.nd (pdi_range1 T.b_range (pda_cons (pd_name 1) pda_nil)) (fun _ _ _ _ _ => pdts_nil) (fun _ _ _ _ _ => (pd_ix ix_seq vo_ix (pd_name 0) (pd_name 3) (fun _ _ => rfl))) (fun _ _ _ _ _ => pg_name (i := 3) sc_l_trim.nd rfl (by first | exact Or.inl rfl | exact Or.inr rfl)) (show blkC NN_l_trim (defScope s_l_trim) _ [("spot", 3)] = true by decide +kernel))))))), ?_⟩
  rintro _ _
  refine ⟨⟨show (1 : Int) ≤ 100000 by decide, show (-100000 : Int) ≤ 1 by decide⟩, ?_⟩
  refine forD_is [.int 0] [.fr (.lst [num 1]), .fr (.int 1), .un, .un] rfl rfl ?_
  refine ⟨⟨show (1 : Int) ≤ 100000 by decide, show (-100000 : Int) ≤ 1 by decide⟩, ?_⟩
  refine lcD_is [.int 0] [] [.fr (.lst [num 1]), .fr (.int 1), .fr (.int 0), .un] rfl rfl rfl ?_
  refine ⟨show (0 : Nat) < 100000 by decide, ?_⟩
  exact lcD_is [] [num 1] [.fr (.lst [num 1]), .fr (.int 1), .fr (.int 0), .un] rfl rfl rfl rfl
theorem d_l_trim (T : Tx K mg) : Gd P w K mg base "_law_trim" 1 [] ((ct_l_trim K).sp K) := by
  obtain ⟨fd, F⟩ := T.d_l_trim
  exact gd_of T.g_l_trim F.kp (F.bindsN fun _ _ _ _ _ _ us hl => match us, hl with | [_], _ => rfl) (ok_l_trim T F)
def ct_l_pmul (K : Fr) : Ct := ⟨Unit, fun _ => [P1, P1], fun _ => True, fun _ => .fr P1⟩
theorem ok_l_pmul (T : Tx K mg) {fd : FuncData} (F : L2.FunD K a_l_pmul.name a_l_pmul.qual a_l_pmul.params a_l_pmul.body a_l_pmul.scope [] [] (ga K "_law_pmul") fd) : FnOk P w K mg base CX0 4 (ga K "_law_pmul") fd ["one", "two"] ((ct_l_pmul K).sp K) := by
  refine ct_ok F sc_l_pmul (fun a => rfl) fun cdv A outer s H E hr => ?_
  refine ⟨_, _, (pdss_cons (pds_if (PDW.pdt (pdw_or (pdt_cmp (op_eqD hr.units) vo_eq (pd_callB1 call_lenA vo_len T.b_len (pd_name 0)) pd_int (nomark _)) (pdw_or1 (pdt_cmp (op_eqD hr.units) vo_eq (pd_callB1 call_lenA vo_len T.b_len (pd_name 1)) pd_int (nomark _))))) (pdss_one (pds_ret (pd_tup pda_nil))) pdss_nil)
  (pdss_cons (pds_setLc 2 [("spot", 3)] 3 rfl sc_l_pmul.nd (pdi_range1 T.b_range (pda_cons (pd_op op_sub vo_sub (pd_op op_addA vo_add (pd_callB1 call_lenA vo_len T.b_len (pd_name 0)) (pd_callB1 call_lenA vo_len T.b_len (pd_name 1))) pd_int) pda_nil)) (fun _ _ _ _ _ => pdts_nil) (fun _ _ _ _ _ => (pd_tup (pda_cons pd_int (pda_cons pd_int pda_nil)))) (fun _ _ _ _ _ => pg_name (i := 3) sc_l_pmul.nd rfl (by first | exact Or.inl rfl | exact Or.inr rfl)) (show blkC NN_l_pmul (defScope s_l_pmul) _ [("spot", 3)] = true by decide +kernel))
  (pdss_cons (pds_for PassesOwn.never rfl (pdi_range1 T.b_range (pda_cons (pd_callB1 call_lenA vo_len T.b_len (pd_name 0)) pda_nil)) (pdg_name 3 sc_l_pmul.nd)
  (pdss_one (pds_for PassesOwn.never rfl (pdi_range1 T.b_range (pda_cons (pd_callB1 call_lenA vo_len T.b_len (pd_name 1)) pda_nil)) (pdg_name 4 sc_l_pmul.nd)
  (pdss_one (pds_setIx 2 (pd_call (d_l_add T) (hr.mono (by decide)) (pda_cons (pd_ix ix_seq vo_ix (pd_name 2) (pd_op op_addA vo_add (pd_name 3) (pd_name 4)) (fun _ _ => rfl)) (pda_cons (pd_call (d_l_mul T) (hr.mono (by decide)) (pda_cons (pd_ix ix_seq vo_ix (pd_name 0) (pd_name 3) (fun _ _ => rfl)) (pda_cons (pd_ix ix_seq vo_ix (pd_name 1) (pd_name 4) (fun _ _ => rfl)) pda_nil))) pda_nil))) (pd_op op_addA vo_add (pd_name 3) (pd_name 4)))))))
  (pdss_one (pds_ret (pd_call (d_l_trim T) (hr.mono (by decide)) (pda_cons (pd_name 2) pda_nil))))))), ?_⟩
  rintro _ _
  refine ⟨⟨show (1 : Int) ≤ 100000 by decide, show (-100000 : Int) ≤ 1 by decide⟩, ?_⟩
  refine lcD_is [.int 0] [] [.fr P1, .fr P1, .un, .un, .un] rfl rfl rfl ?_
  refine ⟨show (0 : Nat) < 100000 by decide, ?_⟩
  refine ⟨⟨show (1 : Int) ≤ 100000 by decide, show (-100000 : Int) ≤ 1 by decide⟩, ?_⟩
  refine forD_is [.int 0] [.fr P1, .fr P1, .ow (.lst [zD]), .un, .un] rfl rfl ?_
  refine ⟨⟨show (1 : Int) ≤ 100000 by decide, show (-100000 : Int) ≤ 1 by decide⟩, ?_⟩
  refine forD_is [.int 0] [.fr P1, .fr P1, .ow (.lst [zD]), .fr (.int 0), .un] rfl rfl ?_
  have s1 : Sz 900 1 := ⟨by decide +kernel, by decide +kernel⟩
  have s0 : Sz 900 0 := ⟨by decide +kernel, by decide +kernel⟩
  refine ⟨((1 : Rat), (1 : Rat)), rfl, ⟨s1, s1⟩, ((0 : Rat), (1 : Rat)), by rw [nmul]; rfl, ⟨s0, s1⟩, ?_⟩
  refine forD_is [] [.fr P1, .fr P1, .ow (.lst [num 1]), .fr (.int 0), .fr (.int 0)] (by
    have e : num (((0 : Rat), (1 : Rat)).fst + ((0 : Rat), (1 : Rat)).snd) = num 1 := by
      show num (0 + 1) = num 1
      rw [Rat.zero_add]
    rw [e]
    rfl) rfl ?_
  exact ⟨(), rfl, trivial, rfl⟩
theorem d_l_pmul (T : Tx K mg) : Gd P w K mg base "_law_pmul" 4 [] ((ct_l_pmul K).sp K) := by
  obtain ⟨fd, F⟩ := T.d_l_pmul
  exact gd_of T.g_l_pmul F.kp (F.bindsN fun _ _ _ _ _ _ us hl => match us, hl with | [_, _], _ => rfl) (ok_l_pmul T F)
end
end W86
end
section
set_option Elab.async false
set_option linter.all false
set_option maxRecDepth 100000
set_option maxHeartbeats 1000000
set_option exponentiation.threshold 100000
/-! WK: the law's own links. -/
namespace W86
open PySem PySem.Spec PyProof.Rows L2 Evl DL
open He (ga ma)
open He5 (wf)
/-- the law's links as a list -/
def llsD (S : Nat) (ls : List Lk) : D := .lst (ls.map (llD S))
section
variable {P : Program} {w : World} {K : Fr} {mg : Str → Option Value} {base : Heap}
theorem Fit.szk {S : Nat} {ls : List Lk} (h : Fit S ls) {x : Lk} (hx : x ∈ ls) : Szk S x.2 := by
  obtain ⟨f1, f2, f3, f4⟩ := h
  refine ⟨f1, f2, ?_⟩
  have : x.2.natAbs ≤ wt ls := by
    obtain ⟨a, b, e⟩ := List.append_of_mem hx
    rw [e, wt_app, wt_cons]
    omega
  omega
def ct_l_row (K : Fr) : Ct := ⟨RA, fun a => [llsD a.1 a.2], fun a => Fit a.1 a.2, fun a => .ow (rowO K a.1 a.2)⟩
theorem ok_l_row (T : Tx K mg) {fd : FuncData} (F : L2.FunD K a_l_row.name a_l_row.qual a_l_row.params a_l_row.body a_l_row.scope [] [] (ga K "_law_row") fd) : FnOk P w K mg base CX0 11 (ga K "_law_row") fd ["links"] ((ct_l_row K).sp K) := by
  refine ct_ok F sc_l_row (fun a => rfl) fun cdv A outer s H E hr => ?_
  refine ⟨_, _, (pdss_one (pds_ret (pd_make (mk_Row T) (hr.mono (by decide)) (pda_cons (pd_lc [("link", 1)] 1 rfl sc_l_row.nd (pdi_seq (pd_name 0)) (fun _ _ _ _ _ => pdts_nil) (fun _ _ _ _ _ => (pd_make (mk_Link3 T) (hr.mono (by decide)) (pda_cons (pd_ix ix_seq vo_ix (pd_name 1) pd_int (fun _ _ => rfl)) (pda_cons (pd_ix ix_seq vo_ix (pd_name 1) pd_int (fun _ _ => rfl)) (pda_cons (pd_make (mk_Func T) (hr.mono (by decide)) (pda_cons (pd_ix ix_seq vo_ix (pd_name 1) pd_int (fun _ _ => rfl)) (pda_cons (pd_ix ix_seq vo_ix (pd_name 1) pd_int (fun _ _ => rfl)) pda_nil))) pda_nil))))) (fun _ _ _ _ _ => pg_name (i := 1) sc_l_row.nd rfl (by first | exact Or.inl rfl | exact Or.inr rfl)) (show blkC NN_l_row (defScope s_l_row) _ [("link", 1)] = true by decide +kernel)) pda_nil)))), ?_⟩
  rintro ⟨S, ls⟩ h
  have h : Fit S ls := h
  refine lcD_map (f := llD S) (lkD K S) [.fr (llsD S ls), .un] rfl (show ls.length ≤ 100000 from Nat.le_trans h.2.2.2 (by decide)) ?_ ?_
  · intro x acc hx hl nx hn
    refine ⟨(), rfl, rfl, trivial, rfl, ?_⟩
    exact ⟨(x.1, len S x.2, true), rfl, rfl, (h.szk hx).ok, rfl, hl, hn⟩
  · exact ⟨(false, S, ls), rfl, rfl, h.2.2.2, rfl, rfl⟩
theorem d_l_row (T : Tx K mg) : Gd P w K mg base "_law_row" 11 [] ((ct_l_row K).sp K) := by
  obtain ⟨fd, F⟩ := T.d_l_row
  exact gd_of T.g_l_row F.kp (F.bindsN fun _ _ _ _ _ _ us hl => match us, hl with | [_], _ => rfl) (ok_l_row T F)
def ct_l_undone (K : Fr) : Ct := ⟨RA, fun a => [llsD a.1 a.2], fun a => a.2.length ≤ 600, fun a => .ow (.lst ((a.2.reverse.map inv).map (llD a.1)))⟩
theorem ok_l_undone (T : Tx K mg) {fd : FuncData} (F : L2.FunD K a_l_undone.name a_l_undone.qual a_l_undone.params a_l_undone.body a_l_undone.scope [] [] (ga K "_law_undone") fd) : FnOk P w K mg base CX0 2 (ga K "_law_undone") fd ["links"] ((ct_l_undone K).sp K) := by
  refine ct_ok F sc_l_undone (fun a => rfl) fun cdv A outer s H E hr => ?_
  refine ⟨_, _, (pdss_cons (pds_set 1 (pd_lst pda_nil) sc_l_undone.nd)
  (pdss_cons (pds_for PassesOwn.never rfl (pdi_seq (pd_name 0)) (pdg_name 2 sc_l_undone.nd)
  (pdss_one (pds_set 1 (pd_op op_addA vo_add (pd_lst (pda_cons (pd_tup (pda_cons (pd_ix ix_seq vo_ix (pd_name 2) pd_int (fun _ _ => rfl)) (pda_cons (pd_call (d_l_neg T) (hr.mono (by decide)) (pda_cons (pd_ix ix_seq vo_ix (pd_name 2) pd_int (fun _ _ => rfl)) pda_nil)) (pda_cons (pd_ix ix_seq vo_ix (pd_name 2) pd_int (fun _ _ => rfl)) (pda_cons (pd_ix ix_seq vo_ix (pd_name 2) pd_int (fun _ _ => rfl)) pda_nil))))) pda_nil)) (pd_name 1)) sc_l_undone.nd)))
  (pdss_one (pds_ret (pd_name 1))))), ?_⟩
  rintro ⟨S, ls⟩ h
  have h : ls.length ≤ 600 := h
  refine forD_ind (f := llD S) (fun r ρ => ∃ (t : List Lk) (s2 : Sl), ρ = [.fr (llsD S ls), .ow (.lst (t.map (llD S))), s2] ∧ (r.reverse.map inv) ++ t = ls.reverse.map inv ∧ t.length + r.length ≤ 600) ⟨[], .un, rfl, by simp, by simpa using h⟩ ?_ ?_
  · rintro x r ρ ⟨t, s2, rfl, e1, e2⟩ nx hn
    rw [List.length_cons] at e2
    refine ⟨len S x.2, rfl, trivial, ?_⟩
    refine ⟨show ([D.tup [.str x.1.s, num (-len S x.2), P1, P1]] : List D).length + (t.map (llD S)).length ≤ 100000 by rw [List.length_map, List.length_singleton]; omega, ?_⟩
    refine hn _ ⟨inv x :: t, .fr (llD S x), ?_, ?_, by rw [List.length_cons]; omega⟩
    · show [_, Sl.ow (.lst ([D.tup [.str x.1.s, num (-len S x.2), P1, P1]] ++ t.map (llD S))), _] = [_, Sl.ow (.lst ((inv x :: t).map (llD S))), _]
      rw [len_neg]
      rfl
    · rw [← e1]
      simp
  · rintro ρ ⟨t, s2, rfl, e1, e2⟩
    have e1 : t = ls.reverse.map inv := by simpa using e1
    subst e1
    rfl
theorem d_l_undone (T : Tx K mg) : Gd P w K mg base "_law_undone" 2 [] ((ct_l_undone K).sp K) := by
  obtain ⟨fd, F⟩ := T.d_l_undone
  exact gd_of T.g_l_undone F.kp (F.bindsN fun _ _ _ _ _ _ us hl => match us, hl with | [_], _ => rfl) (ok_l_undone T F)
end
end W86
end
section
set_option Elab.async false
set_option linter.all false
set_option maxRecDepth 100000
set_option maxHeartbeats 1000000
set_option exponentiation.threshold 100000
/-! WL: the law's own reducing. -/
namespace W86
open PySem PySem.Spec PyProof.Rows L2 Evl DL
open He (ga ma)
open He5 (wf)
theorem atI_end {α : Type} (xs : List α) (y : α) : atI (xs ++ [y]) (((xs ++ [y]).length : Nat) - 1 : Int) = some y := by
  unfold atI ixN
  have e : ((((xs ++ [y]).length : Nat) : Int) - 1).toNat = xs.length := by simp
  rw [if_pos (by simp), if_pos (by omega), Option.bind_some, e]
  simp
section
variable {P : Program} {w : World} {K : Fr} {mg : Str → Option Value} {base : Heap}
theorem len_num {S : Nat} (h : 0 < S) (k : Int) : (len S k).num = 0 ↔ k = 0 := by
  rw [Rat.num_eq_zero]
  exact len_eq_zero h k
def ct_l_reduced (K : Fr) : Ct := ⟨RA, fun a => [llsD a.1 a.2], fun a => Fit a.1 a.2, fun a => .ow (.lst ((red a.2).map (llD a.1)))⟩
theorem ok_l_reduced (T : Tx K mg) {fd : FuncData} (F : L2.FunD K a_l_reduced.name a_l_reduced.qual a_l_reduced.params a_l_reduced.body a_l_reduced.scope [] [] (ga K "_law_reduced") fd) : FnOk P w K mg base CX0 5 (ga K "_law_reduced") fd ["links"] ((ct_l_reduced K).sp K) := by
  refine ct_ok F sc_l_reduced (fun a => rfl) fun cdv A outer s H E hr => ?_
  refine ⟨_, _, (pdss_cons (pds_set 1 (pd_lst pda_nil) sc_l_reduced.nd)
  (pdss_cons (pds_for PassesOwn.never rfl (pdi_seq (pd_name 0)) (pdg_name 2 sc_l_reduced.nd)
  (pdss_cons (pds_set 3 (pd_name 2) sc_l_reduced.nd)
  (pdss_cons (pds_if (PDW.pdt (pdw_and (pdt_cmp op_gt vo_cmp (pd_callB1 call_lenA vo_len T.b_len (pd_name 1)) pd_int (nomark _)) (pdw_and1 (pdt_cmp (op_eqD hr.units) vo_eq (pd_ix ix_seq vo_ix (pd_ix ix_seq vo_ix (pd_name 1) (pd_op op_sub vo_sub (pd_callB1 call_lenA vo_len T.b_len (pd_name 1)) pd_int) (fun _ _ => rfl)) pd_int (fun _ _ => rfl)) (pd_ix ix_seq vo_ix (pd_name 3) pd_int (fun _ _ => rfl)) (nomark _))))) (pdss_cons (pds_set 4 (pd_pop 1) sc_l_reduced.nd)
  (pdss_cons (pds_set 5 (pd_call (d_l_pmul T) (hr.mono (by decide)) (pda_cons (pd_ix ix_seq vo_ix (pd_name 4) pd_int (fun _ _ => rfl)) (pda_cons (pd_ix ix_seq vo_ix (pd_name 3) pd_int (fun _ _ => rfl)) pda_nil))) sc_l_reduced.nd)
  (pdss_cons (pds_set 6 (pd_call (d_l_pmul T) (hr.mono (by decide)) (pda_cons (pd_ix ix_seq vo_ix (pd_name 4) pd_int (fun _ _ => rfl)) (pda_cons (pd_ix ix_seq vo_ix (pd_name 3) pd_int (fun _ _ => rfl)) pda_nil))) sc_l_reduced.nd)
  (pdss_one (pds_set 3 (pd_tup (pda_cons (pd_ix ix_seq vo_ix (pd_name 3) pd_int (fun _ _ => rfl)) (pda_cons (pd_call (d_l_add T) (hr.mono (by decide)) (pda_cons (pd_ix ix_seq vo_ix (pd_name 4) pd_int (fun _ _ => rfl)) (pda_cons (pd_ix ix_seq vo_ix (pd_name 3) pd_int (fun _ _ => rfl)) pda_nil))) (pda_cons (pd_name 5) (pda_cons (pd_name 6) pda_nil))))) sc_l_reduced.nd))))) pdss_nil)
  (pdss_one (pds_if (PDW.pdt (pdw_or (pdt_cmp (op_neD hr.units) vo_ne (pd_ix ix_seq vo_ix (pd_ix ix_seq vo_ix (pd_name 3) pd_int (fun _ _ => rfl)) pd_int (fun _ _ => rfl)) pd_int (nomark _)) (pdw_or1 (pdt_cmp (op_neD hr.units) vo_ne (pd_ix ix_seq vo_ix (pd_name 3) pd_int (fun _ _ => rfl)) (pd_ix ix_seq vo_ix (pd_name 3) pd_int (fun _ _ => rfl)) (nomark _))))) (pdss_one (pds_expr (pd_app 1 (pd_name 3)))) pdss_nil)))))
  (pdss_one (pds_ret (pd_name 1))))), ?_⟩
  rintro ⟨S, ls⟩ h
  have h : Fit S ls := h
  obtain ⟨f1, f2, f3, f4⟩ := id h
  refine forD_ind (f := llD S) (fun r ρ => ∃ h s2 s3 s4 s5 s6, ρ = [.fr (llsD S ls), .ow (.lst (h.map (llD S))), s2, s3, s4, s5, s6] ∧ r.foldl push h = red ls ∧ wt h + wt r ≤ wt ls ∧ h.length + r.length ≤ ls.length) ⟨[], .un, .un, .un, .un, .un, rfl, rfl, by simp [wt], by simp⟩ ?_ ?_
  · rintro x r ρ ⟨h, s2, s3, s4, s5, s6, rfl, e1, e2, e3⟩ nx hn
    rw [wt_cons] at e2
    rw [List.length_cons] at e3
    rw [List.foldl_cons] at e1
    have e0 : wt [] = 0 := rfl
    rcases List.eq_nil_or_concat h with rfl | ⟨h', l, rfl⟩
    · rw [push_nil] at e1
      refine ite2 (fun hc => ?_) (fun hc => ?_)
      · have hc : x.2 ≠ 0 := fun z => by
          have hc : (!(PyData.eqv (.int (len S x.2).num) (.int 0))) = true := hc
          rw [eqI, decide_eq_true ((len_num f1 x.2).mpr z)] at hc
          cases hc
        rw [if_neg hc] at e1
        refine ⟨show (0 : Nat) < 100000 by decide, ?_⟩
        exact hn _ ⟨[x], _, _, _, _, _, rfl, e1, by rw [wt_one]; omega, by simp at e3 ⊢; omega⟩
      · have hc : x.2 = 0 := by
          have hc : ¬ (!(PyData.eqv (.int (len S x.2).num) (.int 0))) = true := hc
          rw [eqI] at hc
          exact (len_num f1 x.2).mp (by simpa using hc)
        rw [if_pos hc] at e1
        exact hn _ ⟨[], _, _, _, _, _, rfl, e1, by omega, by simp at e3 ⊢; omega⟩
    · rw [List.concat_eq_append] at e1 e2 e3 ⊢
      rw [push_app] at e1
      rw [wt_app, wt_one] at e2
      rw [List.length_append, List.length_singleton] at e3
      rw [List.map_append]
      have sx : Szk S x.2 := ⟨f1, f2, by omega⟩
      have sl : Szk S l.2 := ⟨f1, f2, by omega⟩
      refine iteT' (decide_eq_true (show (0 : Int) < ((h'.map (llD S) ++ [llD S l]).length : Nat) by simp)) ?_
      refine ob_iff.mpr ⟨llD S l, atI_end _ _, ?_⟩
      refine obB_iff.mpr ⟨shP l.1 x.1, ?_⟩
      refine ite2 (fun hp => ?_) (fun hp => ?_)
      · have hp : l.1 = x.1 := of_decide_eq_true (eqP l.1 x.1 ▸ hp)
        rw [if_pos hp] at e1
        refine ob_iff.mpr ⟨llD S l, by simp, ?_⟩
        refine ⟨(), rfl, trivial, ?_⟩
        refine ⟨(), rfl, trivial, ?_⟩
        refine ⟨(len S l.2, len S x.2), rfl, ⟨sl.sz, sx.sz⟩, ?_⟩
        refine ite2 (fun hc => ?_) (fun hc => ?_)
        · have hc : l.2 + x.2 ≠ 0 := fun z => by
            have hc : (!(PyData.eqv (.int (len S l.2 + len S x.2).num) (.int 0))) = true := hc
            rw [eqI, len_add f1, decide_eq_true ((len_num f1 _).mpr z)] at hc
            cases hc
          rw [if_neg hc] at e1
          refine ⟨show ((h'.map (llD S) ++ [llD S l]).dropLast).length < 100000 by simp; omega, ?_⟩
          refine hn _ ⟨h' ++ [(x.1, l.2 + x.2)], .fr (llD S x), .fr (llD S (x.1, l.2 + x.2)), .fr (llD S l), .fr P1, .fr P1, ?_, e1, ?_, ?_⟩
          · rw [List.map_append]
            show [_, Sl.ow (.lst ((h'.map (llD S) ++ [llD S l]).dropLast ++ [.tup [.str x.1.s, num (len S l.2 + len S x.2), P1, P1]])), _, Sl.fr (.tup [.str x.1.s, num (len S l.2 + len S x.2), P1, P1]), _, _, _] = _
            rw [List.dropLast_concat, len_add f1]
            rfl
          · rw [wt_app, wt_one]
            show wt h' + (l.2 + x.2).natAbs + wt r ≤ wt ls
            omega
          · rw [List.length_append, List.length_singleton]
            omega
        · have hc : l.2 + x.2 = 0 := by
            have hc : ¬ (!(PyData.eqv (.int (len S l.2 + len S x.2).num) (.int 0))) = true := hc
            rw [eqI, len_add f1] at hc
            exact (len_num f1 _).mp (by simpa using hc)
          rw [if_pos hc] at e1
          refine hn _ ⟨h', .fr (llD S x), .fr (llD S (x.1, l.2 + x.2)), .fr (llD S l), .fr P1, .fr P1, ?_, e1, by omega, by omega⟩
          show [_, Sl.ow (.lst (h'.map (llD S) ++ [llD S l]).dropLast), _, Sl.fr (.tup [.str x.1.s, num (len S l.2 + len S x.2), P1, P1]), _, _, _] = _
          rw [List.dropLast_concat, len_add f1]
          rfl
      · have hp : l.1 ≠ x.1 := fun z => hp (by rw [eqP]; exact decide_eq_true z)
        rw [if_neg hp] at e1
        refine ite2 (fun hc => ?_) (fun hc => ?_)
        · have hc : x.2 ≠ 0 := fun z => by
            have hc : (!(PyData.eqv (.int (len S x.2).num) (.int 0))) = true := hc
            rw [eqI, decide_eq_true ((len_num f1 x.2).mpr z)] at hc
            cases hc
          rw [if_neg hc] at e1
          refine ⟨show (h'.map (llD S) ++ [llD S l]).length < 100000 by simp; omega, ?_⟩
          refine hn _ ⟨h' ++ [l] ++ [x], .fr (llD S x), .fr (llD S x), s4, s5, s6, ?_, e1, ?_, ?_⟩
          · rw [List.map_append, List.map_append]
            rfl
          · rw [wt_app, wt_app, wt_one, wt_one]
            omega
          · simp
            omega
        · have hc : x.2 = 0 := by
            have hc : ¬ (!(PyData.eqv (.int (len S x.2).num) (.int 0))) = true := hc
            rw [eqI] at hc
            exact (len_num f1 x.2).mp (by simpa using hc)
          rw [if_pos hc] at e1
          refine hn _ ⟨h' ++ [l], .fr (llD S x), .fr (llD S x), s4, s5, s6, ?_, e1, ?_, ?_⟩
          · rw [List.map_append]
            rfl
          · rw [wt_app, wt_one]
            omega
          · simp
            omega
  · rintro ρ ⟨h, s2, s3, s4, s5, s6, rfl, e1, e2, e3⟩
    have e1 : h = red ls := e1
    subst e1
    rfl
theorem d_l_reduced (T : Tx K mg) : Gd P w K mg base "_law_reduced" 5 [] ((ct_l_reduced K).sp K) := by
  obtain ⟨fd, F⟩ := T.d_l_reduced
  exact gd_of T.g_l_reduced F.kp (F.bindsN fun _ _ _ _ _ _ us hl => match us, hl with | [_], _ => rfl) (ok_l_reduced T F)
end
end W86
end
section
set_option Elab.async false
set_option linter.all false
set_option maxRecDepth 100000
set_option maxHeartbeats 1000000
set_option exponentiation.threshold 100000
/-! WM: flows that fit, or an error. -/
namespace W86
open PySem PySem.Spec PyProof.Rows L2 Evl DL
open He (ga ma)
open He5 (wf)
theorem tk0 {X : Cx} : Takes X (fun _ _ _ _ => False) := fun _ _ x => by
  obtain ⟨_, _, _, _, _, _, _, _, _, _, _, _, _, _, _, _, z⟩ := x
  exact z.elim
/-- the figures of a link are too many -/
def farL (S u p : Nat) (l : Lk) : Bool := decide (3000 < p * (len S l.2).num.natAbs * (u / (len S l.2).den))
def far (S : Nat) (ls : List Lk) : Bool := ls.any (farL S (unitOf S ls) (3 * ls.length + 3))
theorem len_num_le {S : Nat} (h : 0 < S) (k : Int) : (len S k).num.natAbs ≤ k.natAbs := by
  unfold len
  rw [Rat.num_mkRat, if_neg (by omega)]
  exact Int.natAbs_ediv_le_natAbs _ _
theorem unit_dvd {S : Nat} (h : 0 < S) : ∀ (ls : List Lk) (m : Nat), m ∣ S → ls.foldl (fun u l => Nat.lcm u (len S l.2).den) m ∣ S
  | [], m, e => e
  | l :: ls, m, e => unit_dvd h ls _ (Nat.lcm_dvd e (den_dvd S h l.2))
theorem unitOf_dvd {S : Nat} (h : 0 < S) (ls : List Lk) : unitOf S ls ∣ S := unit_dvd h ls 1 (Nat.one_dvd S)
theorem unitOf_pos {S : Nat} (h : 0 < S) (ls : List Lk) : 0 < unitOf S ls := Nat.pos_of_dvd_of_pos (unitOf_dvd h ls) h
theorem unitOf_le {S : Nat} (h : 0 < S) (ls : List Lk) : unitOf S ls ≤ S := Nat.le_of_dvd h (unitOf_dvd h ls)
theorem rndP_wt : ∀ (n : Nat) (ms a : List Lk), wt (rndP n ms a).1 ≤ wt ms
  | 0, ms, a => Nat.le_refl _
  | n + 1, ms, a => by
    rcases List.eq_nil_or_concat ms with rfl | ⟨ms', l, rfl⟩
    · exact Nat.le_refl _
    · rw [List.concat_eq_append]
      cases ms' with
      | nil => exact Nat.le_refl _
      | cons f m =>
        rw [List.cons_append, rndP_app]
        split
        · split
          · have := rndP_wt n m (a ++ [inv l])
            simp only [wt_cons, wt_app, wt_one]
            omega
          · have := rndP_wt n ((l.1, l.2 + f.2) :: m) (a ++ [inv l])
            simp only [wt_cons, wt_app, wt_one] at this ⊢
            omega
        · exact Nat.le_refl _
theorem rounded_wt (ls : List Lk) : wt (rounded' ls).1 ≤ wt ls := Nat.le_trans (rndP_wt _ _ _) (red_wt ls)
/-- a row that may be asked for flows -/
def Fit2 (S : Nat) (ls : List Lk) : Prop := 0 < S ∧ S < 2 ^ 64 ∧ wt ls < 2 ^ 64 ∧ ls.length ≤ 600
theorem Fit2.fit {S : Nat} {ls : List Lk} (h : Fit2 S ls) : Fit S ls := by
  obtain ⟨h1, h2, h3, h4⟩ := h
  have e : (2 : Nat) ^ 64 ≤ 2 ^ 900 := Nat.pow_le_pow_right (by decide) (by decide)
  exact ⟨h1, by omega, by omega, h4⟩
section
variable {P : Program} {w : World} {K : Fr} {mg : Str → Option Value} {base : Heap}
def fitR (K : Fr) (S : Nat) (ls : List Lk) : Option Res := if far S ls = true then none else some (.ow (flO K (unitOf S ls) (3 * ls.length + 3)))
def ctx_fitting_flows (K : Fr) : CtX := ⟨RA, fun a => [rowD K a.1 a.2], fun a => Fit2 a.1 a.2, fun a => fitR K a.1 a.2⟩
theorem mem_wt {ls : List Lk} {x : Lk} (h : x ∈ ls) : x.2.natAbs ≤ wt ls := by
  obtain ⟨a, b, e⟩ := List.append_of_mem h
  rw [e, wt_app, wt_cons]
  omega
theorem ok_fitting_flows (T : Tx K mg) (O : TLO P K mg (ga K "TooLarge")) {fd : FuncData} (F : L2.FunD K a_fitting_flows.name a_fitting_flows.qual a_fitting_flows.params a_fitting_flows.body a_fitting_flows.scope [] [] (ga K "fitting_flows") fd) : FnOk P w K mg base (L2.CX P w) 4 (ga K "fitting_flows") fd ["row"] ((ctx_fitting_flows K).sp K (ga K "TooLarge")) := by
  refine ctx_ok F sc_fitting_flows (fun a => rfl) fun cdv A outer s H E hr => ?_
  refine ⟨_, _, (pdss_cons (pds_set 1 (pd_call (d_unit_of T) (hr.mono (by decide)) (pda_cons (pd_name 0) pda_nil)) sc_fitting_flows.nd)
  (pdss_cons (pds_set 2 (pd_op op_addA vo_add (pd_op op_mulA vo_mul pd_int (pd_callB1 call_lenA vo_len T.b_len (pd_fld T.f_Row_links (pd_name 0)))) pd_int) sc_fitting_flows.nd)
  (pdss_cons (pds_for (passes_of rfl) rfl (pdi_seq (pd_fld T.f_Row_links (pd_name 0))) (pdg_name 3 sc_fitting_flows.nd)
  (pdss_cons (pds_asg (pd_fld T.f_Link_length (pd_name 3)) (pdg_tup rfl (pdgs_cons (pdg_name 4 sc_fitting_flows.nd) (pdgs_cons (pdg_name 5 sc_fitting_flows.nd) pdgs_nil))))
  (pdss_one (pds_if (pdt_cmp op_gt vo_cmp (pd_op op_mulA vo_mul (pd_op op_mulA vo_mul (pd_name 2) (pd_callB1 call_abs vo_abs T.b_abs (pd_name 4))) (pd_op op_fdivW vo_fdiv (pd_name 1) (pd_name 5))) (pd_kon T.k_FLOW_BOUND) (nomark _)) (pdss_one (pds_raiseTL (k := 1) O (takes_of rfl rfl rfl rfl) (hr.mono (by decide)))) pdss_nil))))
  (pdss_one (pds_ret (pd_make (mk_Flows T) (hr.mono (by decide)) (pda_cons (pd_name 1) (pda_cons (pd_name 2) pda_nil)))))))), ?_⟩
  rintro ⟨S, ls⟩ h hw
  have h : Fit2 S ls := h
  obtain ⟨f1, f2, f3, f4⟩ := id h
  have hw : far S ls = true → WD _ _ _ := fun e => hw (show fitR K S ls = none by unfold fitR; rw [if_pos e])
  have lu := unitOf_le f1 ls
  have pu := unitOf_pos f1 ls
  have e64 : (2 : Nat) ^ 64 < 2 ^ 100 := by decide
  refine ⟨(S, ls), rfl, ⟨f1, f2⟩, ?_⟩
  have lm : (ls.map (lkD K S)).length = ls.length := List.length_map _
  refine ⟨⟨rfl, rfl⟩, mulS (by decide) (show (((ls.map (lkD K S)).length : Nat) : Int).natAbs < 2 ^ 100 by rw [lm]; omega), ?_⟩
  refine ⟨⟨rfl, rfl⟩, ?_⟩
  have ep : (3 : Int) * ((ls.map (lkD K S)).length : Nat) + 3 = ((3 * ls.length + 3 : Nat) : Int) := by rw [lm]; omega
  refine forD_ind (f := lkD K S) (fun r ρ => ∃ s3 s4 s5, ρ = [.fr (rowD K S ls), .fr (.int (unitOf S ls)), .fr (.int ((3 * ls.length + 3 : Nat) : Int)), s3, s4, s5] ∧ far S ls = r.any (farL S (unitOf S ls) (3 * ls.length + 3)) ∧ ∀ x ∈ r, x ∈ ls) ⟨.un, .un, .un, ?_, rfl, fun x hx => hx⟩ ?_ ?_
  · show [_, _, Sl.fr (.int ((3 : Int) * ((ls.map (lkD K S)).length : Nat) + 3)), _, _, _] = _
    rw [ep]
  · rintro x r ρ ⟨s3, s4, s5, rfl, e1, e2⟩ nx hn
    have hx := mem_wt (e2 x List.mem_cons_self)
    have hnum := len_num_le f1 x.2
    have hden := Nat.le_of_dvd f1 (den_dvd S f1 x.2)
    have hdp := (len S x.2).den_pos
    refine ⟨⟨rfl, rfl⟩, ?_⟩
    refine ⟨mulS (by omega) (by rw [abs_nat]; omega), ?_⟩
    refine ⟨div_ok (by omega) (Nat.lt_trans (show (((len S x.2).den : Nat) : Int).natAbs < 2 ^ 100 by omega) (Nat.pow_lt_pow_right (by decide) (by decide))), ?_⟩
    have e3 : ((3 * ls.length + 3 : Nat) : Int) * (if (len S x.2).num < 0 then -(len S x.2).num else (len S x.2).num) = (((3 * ls.length + 3) * (len S x.2).num.natAbs : Nat) : Int) := by
      rw [abs_nat, Int.natCast_mul]
    have e4 : ((unitOf S ls : Nat) : Int) / ((len S x.2).den : Nat) = ((unitOf S ls / (len S x.2).den : Nat) : Int) := rfl
    have hq : unitOf S ls / (len S x.2).den ≤ unitOf S ls := Nat.div_le_self _ _
    have hp2 : (3 * ls.length + 3) * (len S x.2).num.natAbs < 2 ^ 80 := by
      have : (3 * ls.length + 3) * (len S x.2).num.natAbs ≤ 2000 * (len S x.2).num.natAbs := Nat.mul_le_mul_right _ (by omega)
      have e80 : 2000 * 2 ^ 64 < 2 ^ 80 := by decide
      omega
    have e80 : (2 : Nat) ^ 80 < 2 ^ 100 := by decide
    refine ⟨?_, ?_⟩
    · show CMul (((3 * ls.length + 3 : Nat) : Int) * (if (len S x.2).num < 0 then -(len S x.2).num else (len S x.2).num)) _ ∨ CMulW (((3 * ls.length + 3 : Nat) : Int) * (if (len S x.2).num < 0 then -(len S x.2).num else (len S x.2).num)) (((unitOf S ls : Nat) : Int) / ((len S x.2).den : Nat))
      rw [e3, e4]
      have hq' : unitOf S ls / (len S x.2).den < 2 ^ 100 := Nat.lt_of_le_of_lt hq (by omega)
      exact mulS (by rw [Int.natAbs_natCast]; omega) (by rw [Int.natAbs_natCast]; exact hq')
    · have ev : decide ((3000 : Int) < ((3 * ls.length + 3 : Nat) : Int) * (if (len S x.2).num < 0 then -(len S x.2).num else (len S x.2).num) * (((unitOf S ls : Nat) : Int) / ((len S x.2).den : Nat))) = farL S (unitOf S ls) (3 * ls.length + 3) x := by
        rw [e3, e4, ← Int.natCast_mul]
        unfold farL
        exact decide_eq_decide.mpr (by omega)
      refine ite2 (fun hc => ?_) (fun hc => ?_)
      · have hc := ev.symm.trans hc
        refine hw ?_
        rw [e1, List.any_cons, hc, Bool.true_or]
      · have hc : farL S (unitOf S ls) (3 * ls.length + 3) x = false := by
          rw [← ev]
          exact Bool.not_eq_true _ ▸ hc
        refine hn _ ⟨_, _, _, rfl, ?_, fun y hy => e2 y (List.mem_cons_of_mem _ hy)⟩
        rw [e1, List.any_cons, hc, Bool.false_or]
  · rintro ρ ⟨s3, s4, s5, rfl, e1, e2⟩
    have e1 : far S ls = false := e1
    refine ⟨(unitOf S ls, 3 * ls.length + 3), rfl, rfl, pu, rfl, ?_⟩
    refine ⟨_, ?_, rfl⟩
    show fitR K S ls = _
    unfold fitR
    rw [if_neg (by rw [e1]; decide)]
    rfl
theorem d_fitting_flows (T : Tx K mg) (O : TLO P K mg (ga K "TooLarge")) : GdX P w K mg base "fitting_flows" 4 ((ctx_fitting_flows K).sp K (ga K "TooLarge")) := by
  obtain ⟨fd, F⟩ := T.d_fitting_flows
  exact ⟨_, fd, _, T.g_fitting_flows, F.kp, (F.bindsN fun _ _ _ _ _ _ us hl => match us, hl with | [_], _ => rfl), ok_fitting_flows T O F⟩
def everR (K : Fr) (S : Nat) (ls : List Lk) : Option Res := if fwd (rounded' ls).1 = true then some (.fr .non) else fitR K S (rounded' ls).1
def ctx_flows_ever (K : Fr) : CtX := ⟨RA, fun a => [rowD K a.1 a.2], fun a => Fit2 a.1 a.2, fun a => everR K a.1 a.2⟩
theorem Fit2.rounded {S : Nat} {ls : List Lk} (h : Fit2 S ls) : Fit2 S (rounded' ls).1 := by
  obtain ⟨f1, f2, f3, f4⟩ := h
  have := rounded_wt ls
  have := rounded_le ls
  exact ⟨f1, f2, by omega, by omega⟩
theorem ok_flows_ever (T : Tx K mg) (O : TLO P K mg (ga K "TooLarge")) {fd : FuncData} (F : L2.FunD K a_flows_ever.name a_flows_ever.qual a_flows_ever.params a_flows_ever.body a_flows_ever.scope [] [] (ga K "flows_ever") fd) : FnOk P w K mg base (L2.CX P w) 15 (ga K "flows_ever") fd ["row"] ((ctx_flows_ever K).sp K (ga K "TooLarge")) := by
  refine ctx_ok F sc_flows_ever (fun a => rfl) fun cdv A outer s H E hr => ?_
  refine ⟨_, _, (pdss_cons (pds_set 1 (pd_ix ix_seq vo_ix (pd_call (d_rounded T) (hr.mono (by decide)) (pda_cons (pd_call (d_all_true T) (hr.mono (by decide)) (pda_cons (pd_name 0) pda_nil)) pda_nil)) pd_int (fun _ _ => rfl)) sc_flows_ever.nd)
  (pdss_cons (pds_if (pdt_val (pd_call (d_is_forward T) (hr.mono (by decide)) (pda_cons (pd_name 1) pda_nil))) (pdss_one (pds_ret pd_non)) pdss_nil)
  (pdss_one (pds_ret (pd_callX (d_fitting_flows T O) (takes_of rfl rfl rfl rfl) (hr.mono (by decide)) (pda_cons (pd_name 1) pda_nil)))))), ?_⟩
  rintro ⟨S, ls⟩ h hw
  have h : Fit2 S ls := h
  have hw : everR K S ls = none → WD _ _ _ := hw
  refine ⟨(S, ls), rfl, h.2.2.2, ?_⟩
  refine ⟨(S, ls), rfl, h.fit, ?_⟩
  refine ⟨(S, (rounded' ls).1), rfl, ⟨h.1, h.rounded.2.2.2⟩, ?_⟩
  refine ite2 (fun hc => ?_) (fun hc => ?_)
  · have hc : fwd (rounded' ls).1 = true := hc
    refine ⟨_, ?_, rfl⟩
    show everR K S ls = _
    unfold everR
    rw [if_pos hc]
  · have hc : ¬ fwd (rounded' ls).1 = true := hc
    have e : everR K S ls = fitR K S (rounded' ls).1 := by unfold everR; rw [if_neg hc]
    refine ⟨(S, (rounded' ls).1), rfl, h.rounded, fun r er => ?_, fun er => hw (e.trans er)⟩
    have er : fitR K S (rounded' ls).1 = some r := er
    have er' := er
    unfold fitR at er'
    split at er'
    · cases er'
    · cases er'
      exact ⟨_, e.trans er, rfl⟩
theorem d_flows_ever (T : Tx K mg) (O : TLO P K mg (ga K "TooLarge")) : GdX P w K mg base "flows_ever" 15 ((ctx_flows_ever K).sp K (ga K "TooLarge")) := by
  obtain ⟨fd, F⟩ := T.d_flows_ever
  exact ⟨_, fd, _, T.g_flows_ever, F.kp, (F.bindsN fun _ _ _ _ _ _ us hl => match us, hl with | [_], _ => rfl), ok_flows_ever T O F⟩
/-- what the law hears of the flows -/
def toldD (S : Nat) (ms : List Lk) : D := if fwd ms = true then .tup [.str "none", .int 0] else if far S ms = true then .tup [.str "figures", .int 0] else .tup [.str "flows", .int (unitOf S ms), .int ((3 * ms.length + 3 : Nat) : Int)]
def ct_l_flows_told (K : Fr) : Ct := ⟨RA, fun a => [rowD K a.1 a.2], fun a => Fit2 a.1 a.2, fun a => .fr (toldD a.1 (rounded' a.2).1)⟩
theorem ok_l_flows_told (T : Tx K mg) (O : TLO P K mg (ga K "TooLarge")) {fd : FuncData} (F : L2.FunD K a_l_flows_told.name a_l_flows_told.qual a_l_flows_told.params a_l_flows_told.body a_l_flows_told.scope [] [] (ga K "_law_flows_told") fd) : FnOk P w K mg base CX0 16 (ga K "_law_flows_told") fd ["row"] ((ct_l_flows_told K).sp K) := by
  refine ct_ok F sc_l_flows_told (fun a => rfl) fun cdv A outer s H E hr => ?_
  refine ⟨_, _, (pdss_cons (pds_set 1 pd_non sc_l_flows_told.nd)
  (pdss_cons (pds_try 0 1 2 O (d_flows_ever T O) (hr.mono (by decide)) rfl rfl sc_l_flows_told.nd rfl tk0 (io := 0) (hne := by decide) (hny := by decide))
  (pdss_cons (pds_if (pdt_cmp op_isN vo_isN (pd_name 1) pd_non (nomark _)) (pdss_one (pds_ret (pd_tup (pda_cons pd_str (pda_cons pd_int pda_nil))))) pdss_nil)
  (pdss_cons (pds_if (PDW.pdt (pdw_or (pdt_not (pdt_val (pd_isC T.i_Flows T.b_isinstance (pd_name 1)))) (pdw_or (pdt_not (pdt_val (pd_call (d_l_whole T) (hr.mono (by decide)) (pda_cons (pd_fld T.f_Flows_unit (pd_name 1)) pda_nil)))) (pdw_or1 (pdt_not (pdt_val (pd_call (d_l_whole T) (hr.mono (by decide)) (pda_cons (pd_fld T.f_Flows_power (pd_name 1)) pda_nil)))))))) (pdss_one (pds_ret (pd_tup (pda_cons pd_str (pda_cons pd_int pda_nil))))) pdss_nil)
  (pdss_one (pds_ret (pd_tup (pda_cons pd_str (pda_cons (pd_fld T.f_Flows_unit (pd_name 1)) (pda_cons (pd_fld T.f_Flows_power (pd_name 1)) pda_nil)))))))))), ?_⟩
  rintro ⟨S, ls⟩ h
  have h : Fit2 S ls := h
  refine ⟨show (2 : Nat) < 3 from by decide, rowD K S ls, (S, ls), rfl, rfl, h, fun r er => ?_, fun er => ?_⟩
  · have er : everR K S ls = some r := er
    unfold everR at er
    split at er
    · rename_i hf
      cases er
      show Res.fr (toldD S (rounded' ls).1) = Res.fr (.tup [.str "none", .int 0])
      unfold toldD
      rw [if_pos hf]
    · rename_i hf
      unfold fitR at er
      split at er
      · cases er
      · rename_i hq
        cases er
        refine ⟨⟨_, _, rfl⟩, ⟨rfl, rfl⟩, (((unitOf S (rounded' ls).1 : Nat) : Int)), rfl, trivial, ?_⟩
        refine ⟨⟨rfl, rfl⟩, ((3 * (rounded' ls).1.length + 3 : Nat) : Int), rfl, trivial, ?_⟩
        refine ⟨⟨rfl, rfl⟩, ⟨rfl, rfl⟩, ?_⟩
        show Res.fr (toldD S (rounded' ls).1) = _
        unfold toldD
        rw [if_neg hf, if_neg hq]
  · have er : everR K S ls = none := er
    show Res.fr (toldD S (rounded' ls).1) = Res.fr (.tup [.str "figures", .int 0])
    unfold everR at er
    split at er
    · cases er
    · rename_i hf
      unfold fitR at er
      split at er
      · rename_i hq
        unfold toldD
        rw [if_neg hf, if_pos hq]
      · cases er
theorem d_l_flows_told (T : Tx K mg) (O : TLO P K mg (ga K "TooLarge")) : Gd P w K mg base "_law_flows_told" 16 [] ((ct_l_flows_told K).sp K) := by
  obtain ⟨fd, F⟩ := T.d_l_flows_told
  exact gd_of T.g_l_flows_told F.kp (F.bindsN fun _ _ _ _ _ _ us hl => match us, hl with | [_], _ => rfl) (ok_l_flows_told T O F)
end
end W86
end
section
set_option Elab.async false
set_option linter.all false
set_option maxRecDepth 100000
set_option maxHeartbeats 1000000
set_option exponentiation.threshold 100000
/-! WN: the law's own flows. -/
namespace W86
open PySem PySem.Spec PyProof.Rows L2 Evl DL
open He (ga ma)
open He5 (wf)
def zmD (Z : Z2) : D := .lst [.lst [.int Z.1.1, .int Z.1.2], .lst [.int Z.2.1, .int Z.2.2]]
theorem forM_at {j : Nat} {g : DG} {t : DM} {N : MS} {ds : List DL.D} {ρ : Ro} {x1 x2 : List DL.D} (ds' : List DL.D) (ρ' : Ro) (y1 y2 : List DL.D) (e0 : ds = ds') (e : ρ = ρ') (e1 : x1 = y1) (e2 : x2 = y2) (h : forM j g t N ds' ρ' y1 y2) : forM j g t N ds ρ x1 x2 := by
  subst e0 e e1 e2
  exact h
theorem mulZ {i j : Int} (n m : Nat) (h : i.natAbs < 2 ^ n) (hn : j.natAbs < 2 ^ m) (h0 : n + m ≤ 9000 := by decide) (h1 : 0 < n := by decide) (h2 : 0 < m := by decide) : CMul i j ∨ CMulW i j := .inr (wide_mul h hn h1 h2 (by omega))
abbrev rdF : DS := dMat false 6 [D.int 0, D.int 0] [D.int 0, D.int 0]
  (dmFor 6 (dRng1 (dCons false (dC (D.int 2)) dNil)) (dgName false 7)
    (dmFor 6 (dRng1 (dCons false (dC (D.int 2)) dNil)) (dgName false 8)
      (dmSeq (dmLift 6 (dSet false 9 (dOp DL.gSub (dOp gMul (dVar 4) (dCB1 gInt (dOp gEq (dVar 7) (dVar 8)))) (dOp gIx (dOp gIx (dVar 3) (dVar 7)) (dVar 8)))))
        (dmIf 6 (dB (dOp (gCmp fun i j => decide (j ≤ i)) (dVar 2) (dC (D.int 0))))
          (dmStore false 6 7 8 (dOp gAdd (dOp gMul (dVar 5) (dVar 9)) (dOp gIx (dOp gIx (dVar 3) (dVar 7)) (dVar 8))))
          (dmStore false 6 7 8 (dOp gAdd (dVar 9) (dOp gMul (dVar 5) (dOp gIx (dOp gIx (dVar 3) (dVar 7)) (dVar 8)))))))))
  (dSeq (dIfS (dB (dOp (gCmp fun i j => decide (j ≤ i)) (dVar 2) (dC (D.int 0)))) (dSet false 4 (dOp gMul (dVar 4) (dVar 5))) fun D ρ => D.nx ρ) (dRet (dTup (dCons false (dVar 6) (dCons false (dVar 4) dNil)))))
theorem dm_at {t : DM} {N : MS} {ρ : Ro} {x1 x2 : List DL.D} (ρ' : Ro) (y1 y2 : List DL.D) (e : ρ = ρ') (e1 : x1 = y1) (e2 : x2 = y2) (h : t N ρ' y1 y2) : t N ρ x1 x2 := by
  subst e e1 e2
  exact h
theorem forM_nil {j : Nat} {g : DG} {t : DM} {N : MS} {ρ : Ro} {x1 x2 : List DL.D} (h : N ρ x1 x2) : forM j g t N [] ρ x1 x2 := h
theorem ds_at {t : DS} {E : DEnds} {ρ : Ro} (ρ' : Ro) (e : ρ = ρ') (h : t E ρ') : t E ρ := by
  subst e
  exact h
theorem rdF_ok {E : DEnds} {s : Str} {p k b z r00 r01 r10 r11 : Int} (hb : b.natAbs ≤ 10) (h0 : r00.natAbs ≤ 10) (h1 : r01.natAbs ≤ 10) (h2 : r10.natAbs ≤ 10) (h3 : r11.natAbs ≤ 10) (hz : z.natAbs < 2 ^ 401)
    (hf1 : 0 ≤ k → ∀ ρ, E.rt (.fr (.tup [.lst [.lst [.int (z * (b * 1 - r00) + r00), .int (z * (b * 0 - r01) + r01)], .lst [.int (z * (b * 0 - r10) + r10), .int (z * (b * 1 - r11) + r11)]], .int (b * z)])) ρ) (hf2 : ¬ 0 ≤ k → ∀ ρ, E.rt (.fr (.tup [.lst [.lst [.int (b * 1 - r00 + z * r00), .int (b * 0 - r01 + z * r01)], .lst [.int (b * 0 - r10 + z * r10), .int (b * 1 - r11 + z * r11)]], .int b])) ρ) : rdF E [.fr (.str s), .fr (.int p), .fr (.int k), .ow (.lst [.lst [.int r00, .int r01], .lst [.int r10, .int r11]]), .fr (.int b), .fr (.int z), .un, .un, .un, .un] := by
  refine ⟨rfl, show (6 : Nat) < 10 from by decide, fun a => ?_⟩
  by_cases hk : 0 ≤ k
  · refine ⟨⟨show (2 : Int) ≤ 100000 by decide, show (-100000 : Int) ≤ 2 by decide⟩, rfl, ?_⟩
    refine forM_at [.int 0, .int 1] [.fr (.str s), .fr (.int p), .fr (.int k), .ow (.lst [.lst [.int r00, .int r01], .lst [.int r10, .int r11]]), .fr (.int b), .fr (.int z), .fr (.adr a), .un, .un, .un] [.int 0, .int 0] [.int 0, .int 0] rfl rfl rfl rfl ?_
    refine ⟨rfl, dm_at [.fr (.str s), .fr (.int p), .fr (.int k), .ow (.lst [.lst [.int r00, .int r01], .lst [.int r10, .int r11]]), .fr (.int b), .fr (.int z), .fr (.adr a), .fr (.int 0), .un, .un] [.int 0, .int 0] [.int 0, .int 0] rfl rfl rfl ?_⟩
    refine ⟨⟨show (2 : Int) ≤ 100000 by decide, show (-100000 : Int) ≤ 2 by decide⟩, rfl, ?_⟩
    refine forM_at [.int 0, .int 1] [.fr (.str s), .fr (.int p), .fr (.int k), .ow (.lst [.lst [.int r00, .int r01], .lst [.int r10, .int r11]]), .fr (.int b), .fr (.int z), .fr (.adr a), .fr (.int 0), .un, .un] [.int 0, .int 0] [.int 0, .int 0] rfl rfl rfl rfl ?_
    refine ⟨rfl, dm_at [.fr (.str s), .fr (.int p), .fr (.int k), .ow (.lst [.lst [.int r00, .int r01], .lst [.int r10, .int r11]]), .fr (.int b), .fr (.int z), .fr (.adr a), .fr (.int 0), .fr (.int 0), .un] [.int 0, .int 0] [.int 0, .int 0] rfl rfl rfl ?_⟩
    refine ⟨mulZ 100 100 (by omega) (by decide +kernel), rfl, ?_⟩
    refine dm_at [.fr (.str s), .fr (.int p), .fr (.int k), .ow (.lst [.lst [.int r00, .int r01], .lst [.int r10, .int r11]]), .fr (.int b), .fr (.int z), .fr (.adr a), .fr (.int 0), .fr (.int 0), .fr (.int (b * 1 - r00))] [.int 0, .int 0] [.int 0, .int 0] (by rfl) rfl rfl ?_
    refine ⟨rfl, iteT' (decide_eq_true hk) ?_⟩
    refine ⟨mulZ 401 100 hz (by omega), rfl, 0, 0, rfl, rfl, .inl ⟨rfl, show (0 : Nat) < 2 from by decide, ?_⟩⟩
    refine forM_at [.int 1] [.fr (.str s), .fr (.int p), .fr (.int k), .ow (.lst [.lst [.int r00, .int r01], .lst [.int r10, .int r11]]), .fr (.int b), .fr (.int z), .fr (.adr a), .fr (.int 0), .fr (.int 0), .fr (.int (b * 1 - r00))] [.int (z * (b * 1 - r00) + r00), .int 0] [.int 0, .int 0] rfl rfl rfl rfl ?_
    refine ⟨rfl, dm_at [.fr (.str s), .fr (.int p), .fr (.int k), .ow (.lst [.lst [.int r00, .int r01], .lst [.int r10, .int r11]]), .fr (.int b), .fr (.int z), .fr (.adr a), .fr (.int 0), .fr (.int 1), .fr (.int (b * 1 - r00))] [.int (z * (b * 1 - r00) + r00), .int 0] [.int 0, .int 0] rfl rfl rfl ?_⟩
    refine ⟨mulZ 100 100 (by omega) (by decide +kernel), rfl, ?_⟩
    refine dm_at [.fr (.str s), .fr (.int p), .fr (.int k), .ow (.lst [.lst [.int r00, .int r01], .lst [.int r10, .int r11]]), .fr (.int b), .fr (.int z), .fr (.adr a), .fr (.int 0), .fr (.int 1), .fr (.int (b * 0 - r01))] [.int (z * (b * 1 - r00) + r00), .int 0] [.int 0, .int 0] (by rfl) rfl rfl ?_
    refine ⟨rfl, iteT' (decide_eq_true hk) ?_⟩
    refine ⟨mulZ 401 100 hz (by omega), rfl, 0, 1, rfl, rfl, .inl ⟨rfl, show (1 : Nat) < 2 from by decide, ?_⟩⟩
    refine forM_nil ?_
    refine forM_at [.int 1] [.fr (.str s), .fr (.int p), .fr (.int k), .ow (.lst [.lst [.int r00, .int r01], .lst [.int r10, .int r11]]), .fr (.int b), .fr (.int z), .fr (.adr a), .fr (.int 0), .fr (.int 1), .fr (.int (b * 0 - r01))] [.int (z * (b * 1 - r00) + r00), .int (z * (b * 0 - r01) + r01)] [.int 0, .int 0] rfl rfl rfl rfl ?_
    refine ⟨rfl, dm_at [.fr (.str s), .fr (.int p), .fr (.int k), .ow (.lst [.lst [.int r00, .int r01], .lst [.int r10, .int r11]]), .fr (.int b), .fr (.int z), .fr (.adr a), .fr (.int 1), .fr (.int 1), .fr (.int (b * 0 - r01))] [.int (z * (b * 1 - r00) + r00), .int (z * (b * 0 - r01) + r01)] [.int 0, .int 0] rfl rfl rfl ?_⟩
    refine ⟨⟨show (2 : Int) ≤ 100000 by decide, show (-100000 : Int) ≤ 2 by decide⟩, rfl, ?_⟩
    refine forM_at [.int 0, .int 1] [.fr (.str s), .fr (.int p), .fr (.int k), .ow (.lst [.lst [.int r00, .int r01], .lst [.int r10, .int r11]]), .fr (.int b), .fr (.int z), .fr (.adr a), .fr (.int 1), .fr (.int 1), .fr (.int (b * 0 - r01))] [.int (z * (b * 1 - r00) + r00), .int (z * (b * 0 - r01) + r01)] [.int 0, .int 0] rfl rfl rfl rfl ?_
    refine ⟨rfl, dm_at [.fr (.str s), .fr (.int p), .fr (.int k), .ow (.lst [.lst [.int r00, .int r01], .lst [.int r10, .int r11]]), .fr (.int b), .fr (.int z), .fr (.adr a), .fr (.int 1), .fr (.int 0), .fr (.int (b * 0 - r01))] [.int (z * (b * 1 - r00) + r00), .int (z * (b * 0 - r01) + r01)] [.int 0, .int 0] rfl rfl rfl ?_⟩
    refine ⟨mulZ 100 100 (by omega) (by decide +kernel), rfl, ?_⟩
    refine dm_at [.fr (.str s), .fr (.int p), .fr (.int k), .ow (.lst [.lst [.int r00, .int r01], .lst [.int r10, .int r11]]), .fr (.int b), .fr (.int z), .fr (.adr a), .fr (.int 1), .fr (.int 0), .fr (.int (b * 0 - r10))] [.int (z * (b * 1 - r00) + r00), .int (z * (b * 0 - r01) + r01)] [.int 0, .int 0] (by rfl) rfl rfl ?_
    refine ⟨rfl, iteT' (decide_eq_true hk) ?_⟩
    refine ⟨mulZ 401 100 hz (by omega), rfl, 1, 0, rfl, rfl, .inr ⟨rfl, show (0 : Nat) < 2 from by decide, ?_⟩⟩
    refine forM_at [.int 1] [.fr (.str s), .fr (.int p), .fr (.int k), .ow (.lst [.lst [.int r00, .int r01], .lst [.int r10, .int r11]]), .fr (.int b), .fr (.int z), .fr (.adr a), .fr (.int 1), .fr (.int 0), .fr (.int (b * 0 - r10))] [.int (z * (b * 1 - r00) + r00), .int (z * (b * 0 - r01) + r01)] [.int (z * (b * 0 - r10) + r10), .int 0] rfl rfl rfl rfl ?_
    refine ⟨rfl, dm_at [.fr (.str s), .fr (.int p), .fr (.int k), .ow (.lst [.lst [.int r00, .int r01], .lst [.int r10, .int r11]]), .fr (.int b), .fr (.int z), .fr (.adr a), .fr (.int 1), .fr (.int 1), .fr (.int (b * 0 - r10))] [.int (z * (b * 1 - r00) + r00), .int (z * (b * 0 - r01) + r01)] [.int (z * (b * 0 - r10) + r10), .int 0] rfl rfl rfl ?_⟩
    refine ⟨mulZ 100 100 (by omega) (by decide +kernel), rfl, ?_⟩
    refine dm_at [.fr (.str s), .fr (.int p), .fr (.int k), .ow (.lst [.lst [.int r00, .int r01], .lst [.int r10, .int r11]]), .fr (.int b), .fr (.int z), .fr (.adr a), .fr (.int 1), .fr (.int 1), .fr (.int (b * 1 - r11))] [.int (z * (b * 1 - r00) + r00), .int (z * (b * 0 - r01) + r01)] [.int (z * (b * 0 - r10) + r10), .int 0] (by rfl) rfl rfl ?_
    refine ⟨rfl, iteT' (decide_eq_true hk) ?_⟩
    refine ⟨mulZ 401 100 hz (by omega), rfl, 1, 1, rfl, rfl, .inr ⟨rfl, show (1 : Nat) < 2 from by decide, ?_⟩⟩
    refine forM_nil ?_
    refine forM_nil ?_
    refine ⟨rfl, ds_at [.fr (.str s), .fr (.int p), .fr (.int k), .ow (.lst [.lst [.int r00, .int r01], .lst [.int r10, .int r11]]), .fr (.int b), .fr (.int z), .fr (.lst [.lst [.int (z * (b * 1 - r00) + r00), .int (z * (b * 0 - r01) + r01)], .lst [.int (z * (b * 0 - r10) + r10), .int (z * (b * 1 - r11) + r11)]]), .fr (.int 1), .fr (.int 1), .fr (.int (b * 1 - r11))] rfl ?_⟩
    refine iteT' (decide_eq_true hk) ?_
    refine ⟨mulZ 100 401 (by omega) hz, ?_⟩
    have hf := hf1 hk
    exact hf _
  · refine ⟨⟨show (2 : Int) ≤ 100000 by decide, show (-100000 : Int) ≤ 2 by decide⟩, rfl, ?_⟩
    refine forM_at [.int 0, .int 1] [.fr (.str s), .fr (.int p), .fr (.int k), .ow (.lst [.lst [.int r00, .int r01], .lst [.int r10, .int r11]]), .fr (.int b), .fr (.int z), .fr (.adr a), .un, .un, .un] [.int 0, .int 0] [.int 0, .int 0] rfl rfl rfl rfl ?_
    refine ⟨rfl, dm_at [.fr (.str s), .fr (.int p), .fr (.int k), .ow (.lst [.lst [.int r00, .int r01], .lst [.int r10, .int r11]]), .fr (.int b), .fr (.int z), .fr (.adr a), .fr (.int 0), .un, .un] [.int 0, .int 0] [.int 0, .int 0] rfl rfl rfl ?_⟩
    refine ⟨⟨show (2 : Int) ≤ 100000 by decide, show (-100000 : Int) ≤ 2 by decide⟩, rfl, ?_⟩
    refine forM_at [.int 0, .int 1] [.fr (.str s), .fr (.int p), .fr (.int k), .ow (.lst [.lst [.int r00, .int r01], .lst [.int r10, .int r11]]), .fr (.int b), .fr (.int z), .fr (.adr a), .fr (.int 0), .un, .un] [.int 0, .int 0] [.int 0, .int 0] rfl rfl rfl rfl ?_
    refine ⟨rfl, dm_at [.fr (.str s), .fr (.int p), .fr (.int k), .ow (.lst [.lst [.int r00, .int r01], .lst [.int r10, .int r11]]), .fr (.int b), .fr (.int z), .fr (.adr a), .fr (.int 0), .fr (.int 0), .un] [.int 0, .int 0] [.int 0, .int 0] rfl rfl rfl ?_⟩
    refine ⟨mulZ 100 100 (by omega) (by decide +kernel), rfl, ?_⟩
    refine dm_at [.fr (.str s), .fr (.int p), .fr (.int k), .ow (.lst [.lst [.int r00, .int r01], .lst [.int r10, .int r11]]), .fr (.int b), .fr (.int z), .fr (.adr a), .fr (.int 0), .fr (.int 0), .fr (.int (b * 1 - r00))] [.int 0, .int 0] [.int 0, .int 0] (by rfl) rfl rfl ?_
    refine ⟨rfl, iteF' (fun q => hk (of_decide_eq_true q)) ?_⟩
    refine ⟨mulZ 401 100 hz (by omega), rfl, 0, 0, rfl, rfl, .inl ⟨rfl, show (0 : Nat) < 2 from by decide, ?_⟩⟩
    refine forM_at [.int 1] [.fr (.str s), .fr (.int p), .fr (.int k), .ow (.lst [.lst [.int r00, .int r01], .lst [.int r10, .int r11]]), .fr (.int b), .fr (.int z), .fr (.adr a), .fr (.int 0), .fr (.int 0), .fr (.int (b * 1 - r00))] [.int (b * 1 - r00 + z * r00), .int 0] [.int 0, .int 0] rfl rfl rfl rfl ?_
    refine ⟨rfl, dm_at [.fr (.str s), .fr (.int p), .fr (.int k), .ow (.lst [.lst [.int r00, .int r01], .lst [.int r10, .int r11]]), .fr (.int b), .fr (.int z), .fr (.adr a), .fr (.int 0), .fr (.int 1), .fr (.int (b * 1 - r00))] [.int (b * 1 - r00 + z * r00), .int 0] [.int 0, .int 0] rfl rfl rfl ?_⟩
    refine ⟨mulZ 100 100 (by omega) (by decide +kernel), rfl, ?_⟩
    refine dm_at [.fr (.str s), .fr (.int p), .fr (.int k), .ow (.lst [.lst [.int r00, .int r01], .lst [.int r10, .int r11]]), .fr (.int b), .fr (.int z), .fr (.adr a), .fr (.int 0), .fr (.int 1), .fr (.int (b * 0 - r01))] [.int (b * 1 - r00 + z * r00), .int 0] [.int 0, .int 0] (by rfl) rfl rfl ?_
    refine ⟨rfl, iteF' (fun q => hk (of_decide_eq_true q)) ?_⟩
    refine ⟨mulZ 401 100 hz (by omega), rfl, 0, 1, rfl, rfl, .inl ⟨rfl, show (1 : Nat) < 2 from by decide, ?_⟩⟩
    refine forM_nil ?_
    refine forM_at [.int 1] [.fr (.str s), .fr (.int p), .fr (.int k), .ow (.lst [.lst [.int r00, .int r01], .lst [.int r10, .int r11]]), .fr (.int b), .fr (.int z), .fr (.adr a), .fr (.int 0), .fr (.int 1), .fr (.int (b * 0 - r01))] [.int (b * 1 - r00 + z * r00), .int (b * 0 - r01 + z * r01)] [.int 0, .int 0] rfl rfl rfl rfl ?_
    refine ⟨rfl, dm_at [.fr (.str s), .fr (.int p), .fr (.int k), .ow (.lst [.lst [.int r00, .int r01], .lst [.int r10, .int r11]]), .fr (.int b), .fr (.int z), .fr (.adr a), .fr (.int 1), .fr (.int 1), .fr (.int (b * 0 - r01))] [.int (b * 1 - r00 + z * r00), .int (b * 0 - r01 + z * r01)] [.int 0, .int 0] rfl rfl rfl ?_⟩
    refine ⟨⟨show (2 : Int) ≤ 100000 by decide, show (-100000 : Int) ≤ 2 by decide⟩, rfl, ?_⟩
    refine forM_at [.int 0, .int 1] [.fr (.str s), .fr (.int p), .fr (.int k), .ow (.lst [.lst [.int r00, .int r01], .lst [.int r10, .int r11]]), .fr (.int b), .fr (.int z), .fr (.adr a), .fr (.int 1), .fr (.int 1), .fr (.int (b * 0 - r01))] [.int (b * 1 - r00 + z * r00), .int (b * 0 - r01 + z * r01)] [.int 0, .int 0] rfl rfl rfl rfl ?_
    refine ⟨rfl, dm_at [.fr (.str s), .fr (.int p), .fr (.int k), .ow (.lst [.lst [.int r00, .int r01], .lst [.int r10, .int r11]]), .fr (.int b), .fr (.int z), .fr (.adr a), .fr (.int 1), .fr (.int 0), .fr (.int (b * 0 - r01))] [.int (b * 1 - r00 + z * r00), .int (b * 0 - r01 + z * r01)] [.int 0, .int 0] rfl rfl rfl ?_⟩
    refine ⟨mulZ 100 100 (by omega) (by decide +kernel), rfl, ?_⟩
    refine dm_at [.fr (.str s), .fr (.int p), .fr (.int k), .ow (.lst [.lst [.int r00, .int r01], .lst [.int r10, .int r11]]), .fr (.int b), .fr (.int z), .fr (.adr a), .fr (.int 1), .fr (.int 0), .fr (.int (b * 0 - r10))] [.int (b * 1 - r00 + z * r00), .int (b * 0 - r01 + z * r01)] [.int 0, .int 0] (by rfl) rfl rfl ?_
    refine ⟨rfl, iteF' (fun q => hk (of_decide_eq_true q)) ?_⟩
    refine ⟨mulZ 401 100 hz (by omega), rfl, 1, 0, rfl, rfl, .inr ⟨rfl, show (0 : Nat) < 2 from by decide, ?_⟩⟩
    refine forM_at [.int 1] [.fr (.str s), .fr (.int p), .fr (.int k), .ow (.lst [.lst [.int r00, .int r01], .lst [.int r10, .int r11]]), .fr (.int b), .fr (.int z), .fr (.adr a), .fr (.int 1), .fr (.int 0), .fr (.int (b * 0 - r10))] [.int (b * 1 - r00 + z * r00), .int (b * 0 - r01 + z * r01)] [.int (b * 0 - r10 + z * r10), .int 0] rfl rfl rfl rfl ?_
    refine ⟨rfl, dm_at [.fr (.str s), .fr (.int p), .fr (.int k), .ow (.lst [.lst [.int r00, .int r01], .lst [.int r10, .int r11]]), .fr (.int b), .fr (.int z), .fr (.adr a), .fr (.int 1), .fr (.int 1), .fr (.int (b * 0 - r10))] [.int (b * 1 - r00 + z * r00), .int (b * 0 - r01 + z * r01)] [.int (b * 0 - r10 + z * r10), .int 0] rfl rfl rfl ?_⟩
    refine ⟨mulZ 100 100 (by omega) (by decide +kernel), rfl, ?_⟩
    refine dm_at [.fr (.str s), .fr (.int p), .fr (.int k), .ow (.lst [.lst [.int r00, .int r01], .lst [.int r10, .int r11]]), .fr (.int b), .fr (.int z), .fr (.adr a), .fr (.int 1), .fr (.int 1), .fr (.int (b * 1 - r11))] [.int (b * 1 - r00 + z * r00), .int (b * 0 - r01 + z * r01)] [.int (b * 0 - r10 + z * r10), .int 0] (by rfl) rfl rfl ?_
    refine ⟨rfl, iteF' (fun q => hk (of_decide_eq_true q)) ?_⟩
    refine ⟨mulZ 401 100 hz (by omega), rfl, 1, 1, rfl, rfl, .inr ⟨rfl, show (1 : Nat) < 2 from by decide, ?_⟩⟩
    refine forM_nil ?_
    refine forM_nil ?_
    refine ⟨rfl, ds_at [.fr (.str s), .fr (.int p), .fr (.int k), .ow (.lst [.lst [.int r00, .int r01], .lst [.int r10, .int r11]]), .fr (.int b), .fr (.int z), .fr (.lst [.lst [.int (b * 1 - r00 + z * r00), .int (b * 0 - r01 + z * r01)], .lst [.int (b * 0 - r10 + z * r10), .int (b * 1 - r11 + z * r11)]]), .fr (.int 1), .fr (.int 1), .fr (.int (b * 1 - r11))] rfl ?_⟩
    refine iteF' (fun q => hk (of_decide_eq_true q)) ?_
    have hf := hf2 hk
    exact hf _
theorem flow_eq1 {p : Nat} {pt : Pt} {k b : Int} {r00 r01 r10 r11 : Int} (hk : 0 ≤ k) (e1 : zrows pt = ((r00, r01), (r10, r11))) (e2 : ((zbot pt : Nat) : Int) = b) {r : Res} (er : r = Res.fr (.tup [zmD (zflow p pt k).1, .int (zflow p pt k).2])) :
    r = .fr (.tup [.lst [.lst [.int (((2 ^ (p * k.natAbs) : Nat) : Int) * (b * 1 - r00) + r00), .int (((2 ^ (p * k.natAbs) : Nat) : Int) * (b * 0 - r01) + r01)], .lst [.int (((2 ^ (p * k.natAbs) : Nat) : Int) * (b * 0 - r10) + r10), .int (((2 ^ (p * k.natAbs) : Nat) : Int) * (b * 1 - r11) + r11)]], .int (b * ((2 ^ (p * k.natAbs) : Nat) : Int))]) := by
  subst er
  unfold zflow zmD
  simp only [if_pos hk, zlin, zacross, e1, ← e2, Int.natCast_mul]
  generalize ((2 ^ (p * k.natAbs) : Nat) : Int) = z
  generalize ((zbot pt : Nat) : Int) = q
  have e : ∀ x d : Int, z * (q * d + -1 * x) + 1 * x = z * (q * d - x) + x := fun x d => by rw [show q * d + -1 * x = q * d - x by omega, Int.one_mul]
  rw [e, e, e, e]
theorem flow_eq2 {p : Nat} {pt : Pt} {k b : Int} {r00 r01 r10 r11 : Int} (hk : ¬ 0 ≤ k) (e1 : zrows pt = ((r00, r01), (r10, r11))) (e2 : ((zbot pt : Nat) : Int) = b) {r : Res} (er : r = Res.fr (.tup [zmD (zflow p pt k).1, .int (zflow p pt k).2])) :
    r = .fr (.tup [.lst [.lst [.int (b * 1 - r00 + ((2 ^ (p * k.natAbs) : Nat) : Int) * r00), .int (b * 0 - r01 + ((2 ^ (p * k.natAbs) : Nat) : Int) * r01)], .lst [.int (b * 0 - r10 + ((2 ^ (p * k.natAbs) : Nat) : Int) * r10), .int (b * 1 - r11 + ((2 ^ (p * k.natAbs) : Nat) : Int) * r11)]], .int b]) := by
  subst er
  unfold zflow zmD
  simp only [if_neg hk, zlin, zacross, e1, ← e2]
  generalize ((2 ^ (p * k.natAbs) : Nat) : Int) = z
  generalize ((zbot pt : Nat) : Int) = q
  have e : ∀ x d : Int, 1 * (q * d + -1 * x) + z * x = q * d - x + z * x := fun x d => by rw [Int.one_mul, show q * d + -1 * x = q * d - x by omega]
  rw [e, e, e, e]
section
variable {P : Program} {w : World} {K : Fr} {mg : Str → Option Value} {base : Heap}
def ct_l_flow (K : Fr) : Ct := ⟨Nat × Pt × Int, fun a => [.str a.2.1.s, .int a.1, .int a.2.2], fun a => a.1 < 100 ∧ a.2.2.natAbs < 1000 ∧ a.1 * a.2.2.natAbs ≤ 400, fun a => .fr (.tup [zmD (zflow a.1 a.2.1 a.2.2).1, .int (zflow a.1 a.2.1 a.2.2).2])⟩
theorem ok_l_flow (T : Tx K mg) {fd : FuncData} (F : L2.FunD K a_l_flow.name a_l_flow.qual a_l_flow.params a_l_flow.body a_l_flow.scope [] [] (ga K "_law_flow") fd) : FnOk P w K mg base CX0 1 (ga K "_law_flow") fd ["part", "power", "count"] ((ct_l_flow K).sp K) := by
  refine ct_ok F sc_l_flow (fun a => rfl) fun cdv A outer s H E hr => ?_
  refine ⟨_, _, (pdss_cons (pds_set 3 (pd_lst (pda_cons (pd_lst (pda_cons pd_int (pda_cons pd_int pda_nil))) (pda_cons (pd_lst (pda_cons pd_int (pda_cons pd_int pda_nil))) pda_nil))) sc_l_flow.nd)
  (pdss_cons (pds_set 4 pd_int sc_l_flow.nd)
  (pdss_cons (pds_if (pdt_cmp (op_eqD hr.units) vo_eq (pd_name 0) pd_str (nomark _)) (pdss_cons (pds_set 3 (pd_lst (pda_cons (pd_lst (pda_cons pd_int (pda_cons pd_int pda_nil))) (pda_cons (pd_lst (pda_cons pd_int (pda_cons pd_int pda_nil))) pda_nil))) sc_l_flow.nd)
  (pdss_one (pds_set 4 pd_int sc_l_flow.nd))) pdss_nil)
  (pdss_cons (pds_if (pdt_cmp (op_eqD hr.units) vo_eq (pd_name 0) pd_str (nomark _)) (pdss_cons (pds_set 3 (pd_lst (pda_cons (pd_lst (pda_cons pd_int (pda_cons pd_int pda_nil))) (pda_cons (pd_lst (pda_cons pd_int (pda_cons pd_int pda_nil))) pda_nil))) sc_l_flow.nd)
  (pdss_one (pds_set 4 pd_int sc_l_flow.nd))) pdss_nil)
  (pdss_cons (pds_set 5 (pd_op op_shlW vo_shl pd_int (pd_op op_mulA vo_mul (pd_name 1) (pd_callB1 call_abs vo_abs T.b_abs (pd_name 2)))) sc_l_flow.nd)
  (pdss_mat (j := 6) (pdm_for PassesOwn.never rfl (pdi_range1 T.b_range (pda_cons pd_int pda_nil)) (pdg_name 7 sc_l_flow.nd)
  (pdms_one (pdm_for PassesOwn.never rfl (pdi_range1 T.b_range (pda_cons pd_int pda_nil)) (pdg_name 8 sc_l_flow.nd)
  (pdms_cons (pdm_of (pds_set 9 (pd_op op_sub vo_sub (pd_op op_mulA vo_mul (pd_name 4) (pd_callTy1 call_int1 vo_int T.b_int (pd_cmp (op_eqD hr.units) vo_eq (pd_name 7) (pd_name 8) (nomark _)))) (pd_ix ix_seq vo_ix (pd_ix ix_seq vo_ix (pd_name 3) (pd_name 7) (fun _ _ => rfl)) (pd_name 8) (fun _ _ => rfl))) sc_l_flow.nd))
  (pdms_one (pdm_if (pdt_cmp op_ge vo_cmp (pd_name 2) pd_int (nomark _)) (pdms_one (pdm_store (j := 6) 7 8 (pd_op op_addA vo_add (pd_op op_mulA vo_mul (pd_name 5) (pd_name 9)) (pd_ix ix_seq vo_ix (pd_ix ix_seq vo_ix (pd_name 3) (pd_name 7) (fun _ _ => rfl)) (pd_name 8) (fun _ _ => rfl))))) (pdms_one (pdm_store (j := 6) 7 8 (pd_op op_addA vo_add (pd_name 9) (pd_op op_mulA vo_mul (pd_name 5) (pd_ix ix_seq vo_ix (pd_ix ix_seq vo_ix (pd_name 3) (pd_name 7) (fun _ _ => rfl)) (pd_name 8) (fun _ _ => rfl))))))))))))
  (pdss_cons (pds_if (pdt_cmp op_ge vo_cmp (pd_name 2) pd_int (nomark _)) (pdss_one (pds_set 4 (pd_op op_mulA vo_mul (pd_name 4) (pd_name 5)) sc_l_flow.nd)) pdss_nil)
  (pdss_one (pds_ret (pd_tup (pda_cons (pd_name 6) (pda_cons (pd_name 4) pda_nil)))))) sc_l_flow.nd)))))), ?_⟩
  rintro ⟨p, pt, k⟩ ⟨h1, h2, h3⟩
  have h1 : p < 100 := h1
  have h2 : k.natAbs < 1000 := h2
  have h3 : p * k.natAbs ≤ 400 := h3
  have ne : ∀ {x y : Pt}, x ≠ y → ¬ PyData.eqv (.str x.s) (.str y.s) = true := fun {x y} n h => n (of_decide_eq_true ((eqP x y).symm.trans h))
  have eq : ∀ {x y : Pt}, x = y → PyData.eqv (.str x.s) (.str y.s) = true := fun {x y} n => (eqP x y).trans (decide_eq_true n)
  have es : (1 : Int) * 2 ^ ((p : Int) * (if k < 0 then -k else k)).toNat = ((2 ^ (p * k.natAbs) : Nat) : Int) := by
    rw [abs_nat, ← Int.natCast_mul, Int.toNat_natCast, Int.one_mul, Int.natCast_pow]
    rfl
  have hsz : (((2 ^ (p * k.natAbs) : Nat) : Int)).natAbs < 2 ^ 401 := by
    rw [Int.natAbs_natCast]
    exact Nat.pow_lt_pow_right (by decide) (by omega)
  have hsh : CShl 1 ((p : Int) * (if k < 0 then -k else k)) := by
    rw [abs_nat, ← Int.natCast_mul]
    refine ⟨by omega, ?_⟩
    have : Builtin.Int.intBits 1 = 1 := by decide +kernel
    rw [this]
    have e : (2 : Int) ^ 27 = 134217728 := by decide
    omega
  have hmu : CMul (p : Int) (if k < 0 then -k else k) ∨ CMulW (p : Int) (if k < 0 then -k else k) := by
    rw [abs_nat]
    exact mulZ 100 100 (by rw [Int.natAbs_natCast]; omega) (by rw [Int.natAbs_natCast]; omega)
  refine obB_iff.mpr ⟨shP pt .b, ?_⟩
  refine ite2 (fun h => ?_) (fun h => ?_)
  · have h : pt = .b := of_decide_eq_true ((eqP pt .b).symm.trans h)
    refine obB_iff.mpr ⟨shP pt .c, ?_⟩
    refine ite2 (fun h' => absurd (h.symm.trans (of_decide_eq_true ((eqP pt .c).symm.trans h'))) (by decide)) (fun h' => ?_)
    subst h
    refine ⟨hmu, hsh, ?_⟩
    refine ds_at (t := rdF) [.fr (.str Pt.b.s), .fr (.int p), .fr (.int k), .ow (.lst [.lst [.int 1, .int 1], .lst [.int 1, .int 1]]), .fr (.int 2), .fr (.int ((2 ^ (p * k.natAbs) : Nat) : Int)), .un, .un, .un, .un] (by rw [← es]; rfl) ?_
    exact rdF_ok (by decide) (by decide) (by decide) (by decide) (by decide) hsz (fun hk ρ => flow_eq1 hk rfl rfl rfl) (fun hk ρ => flow_eq2 hk rfl rfl rfl)
  · have h : pt ≠ .b := fun z => h ((eqP pt .b).trans (decide_eq_true z))
    refine obB_iff.mpr ⟨shP pt .c, ?_⟩
    refine ite2 (fun h' => ?_) (fun h' => ?_)
    · have h' : pt = .c := of_decide_eq_true ((eqP pt .c).symm.trans h')
      subst h'
      refine ⟨hmu, hsh, ?_⟩
      refine ds_at (t := rdF) [.fr (.str Pt.c.s), .fr (.int p), .fr (.int k), .ow (.lst [.lst [.int 4, .int 2], .lst [.int 2, .int 1]]), .fr (.int 5), .fr (.int ((2 ^ (p * k.natAbs) : Nat) : Int)), .un, .un, .un, .un] (by rw [← es]; rfl) ?_
      exact rdF_ok (by decide) (by decide) (by decide) (by decide) (by decide) hsz (fun hk ρ => flow_eq1 hk rfl rfl rfl) (fun hk ρ => flow_eq2 hk rfl rfl rfl)
    · have h' : pt ≠ .c := fun z => h' ((eqP pt .c).trans (decide_eq_true z))
      have e : pt = .a := by
        cases pt
        · rfl
        · exact absurd rfl h
        · exact absurd rfl h'
      subst e
      refine ⟨hmu, hsh, ?_⟩
      refine ds_at (t := rdF) [.fr (.str Pt.a.s), .fr (.int p), .fr (.int k), .ow (.lst [.lst [.int 1, .int 0], .lst [.int 0, .int 0]]), .fr (.int 1), .fr (.int ((2 ^ (p * k.natAbs) : Nat) : Int)), .un, .un, .un, .un] (by rw [← es]; rfl) ?_
      exact rdF_ok (by decide) (by decide) (by decide) (by decide) (by decide) hsz (fun hk ρ => flow_eq1 hk rfl rfl rfl) (fun hk ρ => flow_eq2 hk rfl rfl rfl)
theorem d_l_flow (T : Tx K mg) : Gd P w K mg base "_law_flow" 1 [] ((ct_l_flow K).sp K) := by
  obtain ⟨fd, F⟩ := T.d_l_flow
  exact gd_of T.g_l_flow F.kp (F.bindsN fun _ _ _ _ _ _ us hl => match us, hl with | [_, _, _], _ => rfl) (ok_l_flow T F)
end
end W86
end
section
set_option Elab.async false
set_option linter.all false
set_option maxRecDepth 100000
set_option maxHeartbeats 1000000
set_option exponentiation.threshold 100000
/-! WO: the law's own flow of a row. -/
namespace W86
open PySem PySem.Spec PyProof.Rows L2 Evl DL
open He (ga ma)
open He5 (wf)
abbrev rdG : DS := dMat false 7 [D.int 0, D.int 0] [D.int 0, D.int 0]
  (dmFor 7 (dRng1 (dCons false (dC (D.int 2)) dNil)) (dgName false 8)
    (dmFor 7 (dRng1 (dCons false (dC (D.int 2)) dNil)) (dgName false 9)
      (dmStore false 7 8 9 (dOp gAdd (dOp gMul (dOp gIx (dOp gIx (dVar 3) (dVar 8)) (dC (D.int 0))) (dOp gIx (dOp gIx (dOp gIx (dVar 6) (dC (D.int 0))) (dC (D.int 0))) (dVar 9)))
        (dOp gMul (dOp gIx (dOp gIx (dVar 3) (dVar 8)) (dC (D.int 1))) (dOp gIx (dOp gIx (dOp gIx (dVar 6) (dC (D.int 0))) (dC (D.int 1))) (dVar 9)))))))
  (dSeq (dSet false 3 (dVar 7)) (dSet false 4 (dOp gMul (dVar 4) (dOp gIx (dVar 6) (dC (D.int 1))))))
theorem rdG_ok {E : DEnds} {d0 d1 d2 d5 s7 s8 s9 T : Sl} {c q t00 t01 t10 t11 f00 f01 f10 f11 : Int} (hT : T = .fr (.lst [.lst [.int t00, .int t01], .lst [.int t10, .int t11]]) ∨ T = .ow (.lst [.lst [.int t00, .int t01], .lst [.int t10, .int t11]])) (h00 : t00.natAbs < 2 ^ 4200) (h01 : t01.natAbs < 2 ^ 4200) (h10 : t10.natAbs < 2 ^ 4200) (h11 : t11.natAbs < 2 ^ 4200) (hc : c.natAbs < 2 ^ 4200)
    (g00 : f00.natAbs < 2 ^ 500) (g01 : f01.natAbs < 2 ^ 500) (g10 : f10.natAbs < 2 ^ 500) (g11 : f11.natAbs < 2 ^ 500) (hq : q.natAbs < 2 ^ 500)
    (hn : ∀ s5 s7 s8 s9, E.nx [d0, d1, d2, .fr (.lst [.lst [.int (t00 * f00 + t01 * f10), .int (t00 * f01 + t01 * f11)], .lst [.int (t10 * f00 + t11 * f10), .int (t10 * f01 + t11 * f11)]]), .fr (.int (c * q)), d5, s5, s7, s8, s9]) : rdG E [d0, d1, d2, T, .fr (.int c), d5, .fr (.tup [.lst [.lst [.int f00, .int f01], .lst [.int f10, .int f11]], .int q]), s7, s8, s9] := by
  rcases hT with rfl | rfl
  · refine ⟨rfl, show (7 : Nat) < 10 from by decide, fun a => ?_⟩
    refine ⟨⟨show (2 : Int) ≤ 100000 by decide, show (-100000 : Int) ≤ 2 by decide⟩, rfl, ?_⟩
    refine forM_at [.int 0, .int 1] [d0, d1, d2, .fr (.lst [.lst [.int t00, .int t01], .lst [.int t10, .int t11]]), .fr (.int c), d5, .fr (.tup [.lst [.lst [.int f00, .int f01], .lst [.int f10, .int f11]], .int q]), .fr (.adr a), s8, s9] [.int 0, .int 0] [.int 0, .int 0] rfl rfl rfl rfl ?_
    refine ⟨rfl, dm_at [d0, d1, d2, .fr (.lst [.lst [.int t00, .int t01], .lst [.int t10, .int t11]]), .fr (.int c), d5, .fr (.tup [.lst [.lst [.int f00, .int f01], .lst [.int f10, .int f11]], .int q]), .fr (.adr a), .fr (.int 0), s9] [.int 0, .int 0] [.int 0, .int 0] rfl rfl rfl ?_⟩
    refine ⟨⟨show (2 : Int) ≤ 100000 by decide, show (-100000 : Int) ≤ 2 by decide⟩, rfl, ?_⟩
    refine forM_at [.int 0, .int 1] [d0, d1, d2, .fr (.lst [.lst [.int t00, .int t01], .lst [.int t10, .int t11]]), .fr (.int c), d5, .fr (.tup [.lst [.lst [.int f00, .int f01], .lst [.int f10, .int f11]], .int q]), .fr (.adr a), .fr (.int 0), s9] [.int 0, .int 0] [.int 0, .int 0] rfl rfl rfl rfl ?_
    refine ⟨rfl, dm_at [d0, d1, d2, .fr (.lst [.lst [.int t00, .int t01], .lst [.int t10, .int t11]]), .fr (.int c), d5, .fr (.tup [.lst [.lst [.int f00, .int f01], .lst [.int f10, .int f11]], .int q]), .fr (.adr a), .fr (.int 0), .fr (.int 0)] [.int 0, .int 0] [.int 0, .int 0] rfl rfl rfl ?_⟩
    refine ⟨mulZ 4200 500 h00 g00, mulZ 4200 500 h01 g10, rfl, 0, 0, rfl, rfl, .inl ⟨rfl, show (0 : Nat) < 2 from by decide, ?_⟩⟩
    refine forM_at [.int 1] [d0, d1, d2, .fr (.lst [.lst [.int t00, .int t01], .lst [.int t10, .int t11]]), .fr (.int c), d5, .fr (.tup [.lst [.lst [.int f00, .int f01], .lst [.int f10, .int f11]], .int q]), .fr (.adr a), .fr (.int 0), .fr (.int 0)] [.int (t00 * f00 + t01 * f10), .int 0] [.int 0, .int 0] rfl rfl rfl rfl ?_
    refine ⟨rfl, dm_at [d0, d1, d2, .fr (.lst [.lst [.int t00, .int t01], .lst [.int t10, .int t11]]), .fr (.int c), d5, .fr (.tup [.lst [.lst [.int f00, .int f01], .lst [.int f10, .int f11]], .int q]), .fr (.adr a), .fr (.int 0), .fr (.int 1)] [.int (t00 * f00 + t01 * f10), .int 0] [.int 0, .int 0] rfl rfl rfl ?_⟩
    refine ⟨mulZ 4200 500 h00 g01, mulZ 4200 500 h01 g11, rfl, 0, 1, rfl, rfl, .inl ⟨rfl, show (1 : Nat) < 2 from by decide, ?_⟩⟩
    refine forM_nil ?_
    refine forM_at [.int 1] [d0, d1, d2, .fr (.lst [.lst [.int t00, .int t01], .lst [.int t10, .int t11]]), .fr (.int c), d5, .fr (.tup [.lst [.lst [.int f00, .int f01], .lst [.int f10, .int f11]], .int q]), .fr (.adr a), .fr (.int 0), .fr (.int 1)] [.int (t00 * f00 + t01 * f10), .int (t00 * f01 + t01 * f11)] [.int 0, .int 0] rfl rfl rfl rfl ?_
    refine ⟨rfl, dm_at [d0, d1, d2, .fr (.lst [.lst [.int t00, .int t01], .lst [.int t10, .int t11]]), .fr (.int c), d5, .fr (.tup [.lst [.lst [.int f00, .int f01], .lst [.int f10, .int f11]], .int q]), .fr (.adr a), .fr (.int 1), .fr (.int 1)] [.int (t00 * f00 + t01 * f10), .int (t00 * f01 + t01 * f11)] [.int 0, .int 0] rfl rfl rfl ?_⟩
    refine ⟨⟨show (2 : Int) ≤ 100000 by decide, show (-100000 : Int) ≤ 2 by decide⟩, rfl, ?_⟩
    refine forM_at [.int 0, .int 1] [d0, d1, d2, .fr (.lst [.lst [.int t00, .int t01], .lst [.int t10, .int t11]]), .fr (.int c), d5, .fr (.tup [.lst [.lst [.int f00, .int f01], .lst [.int f10, .int f11]], .int q]), .fr (.adr a), .fr (.int 1), .fr (.int 1)] [.int (t00 * f00 + t01 * f10), .int (t00 * f01 + t01 * f11)] [.int 0, .int 0] rfl rfl rfl rfl ?_
    refine ⟨rfl, dm_at [d0, d1, d2, .fr (.lst [.lst [.int t00, .int t01], .lst [.int t10, .int t11]]), .fr (.int c), d5, .fr (.tup [.lst [.lst [.int f00, .int f01], .lst [.int f10, .int f11]], .int q]), .fr (.adr a), .fr (.int 1), .fr (.int 0)] [.int (t00 * f00 + t01 * f10), .int (t00 * f01 + t01 * f11)] [.int 0, .int 0] rfl rfl rfl ?_⟩
    refine ⟨mulZ 4200 500 h10 g00, mulZ 4200 500 h11 g10, rfl, 1, 0, rfl, rfl, .inr ⟨rfl, show (0 : Nat) < 2 from by decide, ?_⟩⟩
    refine forM_at [.int 1] [d0, d1, d2, .fr (.lst [.lst [.int t00, .int t01], .lst [.int t10, .int t11]]), .fr (.int c), d5, .fr (.tup [.lst [.lst [.int f00, .int f01], .lst [.int f10, .int f11]], .int q]), .fr (.adr a), .fr (.int 1), .fr (.int 0)] [.int (t00 * f00 + t01 * f10), .int (t00 * f01 + t01 * f11)] [.int (t10 * f00 + t11 * f10), .int 0] rfl rfl rfl rfl ?_
    refine ⟨rfl, dm_at [d0, d1, d2, .fr (.lst [.lst [.int t00, .int t01], .lst [.int t10, .int t11]]), .fr (.int c), d5, .fr (.tup [.lst [.lst [.int f00, .int f01], .lst [.int f10, .int f11]], .int q]), .fr (.adr a), .fr (.int 1), .fr (.int 1)] [.int (t00 * f00 + t01 * f10), .int (t00 * f01 + t01 * f11)] [.int (t10 * f00 + t11 * f10), .int 0] rfl rfl rfl ?_⟩
    refine ⟨mulZ 4200 500 h10 g01, mulZ 4200 500 h11 g11, rfl, 1, 1, rfl, rfl, .inr ⟨rfl, show (1 : Nat) < 2 from by decide, ?_⟩⟩
    refine forM_nil ?_
    refine forM_nil ?_
    refine ⟨rfl, ds_at [d0, d1, d2, .fr (.lst [.lst [.int t00, .int t01], .lst [.int t10, .int t11]]), .fr (.int c), d5, .fr (.tup [.lst [.lst [.int f00, .int f01], .lst [.int f10, .int f11]], .int q]), .fr (.lst [.lst [.int (t00 * f00 + t01 * f10), .int (t00 * f01 + t01 * f11)], .lst [.int (t10 * f00 + t11 * f10), .int (t10 * f01 + t11 * f11)]]), .fr (.int 1), .fr (.int 1)] rfl ?_⟩
    refine ⟨mulZ 4200 500 hc hq, ?_⟩
    exact hn _ _ _ _
  · refine ⟨rfl, show (7 : Nat) < 10 from by decide, fun a => ?_⟩
    refine ⟨⟨show (2 : Int) ≤ 100000 by decide, show (-100000 : Int) ≤ 2 by decide⟩, rfl, ?_⟩
    refine forM_at [.int 0, .int 1] [d0, d1, d2, .ow (.lst [.lst [.int t00, .int t01], .lst [.int t10, .int t11]]), .fr (.int c), d5, .fr (.tup [.lst [.lst [.int f00, .int f01], .lst [.int f10, .int f11]], .int q]), .fr (.adr a), s8, s9] [.int 0, .int 0] [.int 0, .int 0] rfl rfl rfl rfl ?_
    refine ⟨rfl, dm_at [d0, d1, d2, .ow (.lst [.lst [.int t00, .int t01], .lst [.int t10, .int t11]]), .fr (.int c), d5, .fr (.tup [.lst [.lst [.int f00, .int f01], .lst [.int f10, .int f11]], .int q]), .fr (.adr a), .fr (.int 0), s9] [.int 0, .int 0] [.int 0, .int 0] rfl rfl rfl ?_⟩
    refine ⟨⟨show (2 : Int) ≤ 100000 by decide, show (-100000 : Int) ≤ 2 by decide⟩, rfl, ?_⟩
    refine forM_at [.int 0, .int 1] [d0, d1, d2, .ow (.lst [.lst [.int t00, .int t01], .lst [.int t10, .int t11]]), .fr (.int c), d5, .fr (.tup [.lst [.lst [.int f00, .int f01], .lst [.int f10, .int f11]], .int q]), .fr (.adr a), .fr (.int 0), s9] [.int 0, .int 0] [.int 0, .int 0] rfl rfl rfl rfl ?_
    refine ⟨rfl, dm_at [d0, d1, d2, .ow (.lst [.lst [.int t00, .int t01], .lst [.int t10, .int t11]]), .fr (.int c), d5, .fr (.tup [.lst [.lst [.int f00, .int f01], .lst [.int f10, .int f11]], .int q]), .fr (.adr a), .fr (.int 0), .fr (.int 0)] [.int 0, .int 0] [.int 0, .int 0] rfl rfl rfl ?_⟩
    refine ⟨mulZ 4200 500 h00 g00, mulZ 4200 500 h01 g10, rfl, 0, 0, rfl, rfl, .inl ⟨rfl, show (0 : Nat) < 2 from by decide, ?_⟩⟩
    refine forM_at [.int 1] [d0, d1, d2, .ow (.lst [.lst [.int t00, .int t01], .lst [.int t10, .int t11]]), .fr (.int c), d5, .fr (.tup [.lst [.lst [.int f00, .int f01], .lst [.int f10, .int f11]], .int q]), .fr (.adr a), .fr (.int 0), .fr (.int 0)] [.int (t00 * f00 + t01 * f10), .int 0] [.int 0, .int 0] rfl rfl rfl rfl ?_
    refine ⟨rfl, dm_at [d0, d1, d2, .ow (.lst [.lst [.int t00, .int t01], .lst [.int t10, .int t11]]), .fr (.int c), d5, .fr (.tup [.lst [.lst [.int f00, .int f01], .lst [.int f10, .int f11]], .int q]), .fr (.adr a), .fr (.int 0), .fr (.int 1)] [.int (t00 * f00 + t01 * f10), .int 0] [.int 0, .int 0] rfl rfl rfl ?_⟩
    refine ⟨mulZ 4200 500 h00 g01, mulZ 4200 500 h01 g11, rfl, 0, 1, rfl, rfl, .inl ⟨rfl, show (1 : Nat) < 2 from by decide, ?_⟩⟩
    refine forM_nil ?_
    refine forM_at [.int 1] [d0, d1, d2, .ow (.lst [.lst [.int t00, .int t01], .lst [.int t10, .int t11]]), .fr (.int c), d5, .fr (.tup [.lst [.lst [.int f00, .int f01], .lst [.int f10, .int f11]], .int q]), .fr (.adr a), .fr (.int 0), .fr (.int 1)] [.int (t00 * f00 + t01 * f10), .int (t00 * f01 + t01 * f11)] [.int 0, .int 0] rfl rfl rfl rfl ?_
    refine ⟨rfl, dm_at [d0, d1, d2, .ow (.lst [.lst [.int t00, .int t01], .lst [.int t10, .int t11]]), .fr (.int c), d5, .fr (.tup [.lst [.lst [.int f00, .int f01], .lst [.int f10, .int f11]], .int q]), .fr (.adr a), .fr (.int 1), .fr (.int 1)] [.int (t00 * f00 + t01 * f10), .int (t00 * f01 + t01 * f11)] [.int 0, .int 0] rfl rfl rfl ?_⟩
    refine ⟨⟨show (2 : Int) ≤ 100000 by decide, show (-100000 : Int) ≤ 2 by decide⟩, rfl, ?_⟩
    refine forM_at [.int 0, .int 1] [d0, d1, d2, .ow (.lst [.lst [.int t00, .int t01], .lst [.int t10, .int t11]]), .fr (.int c), d5, .fr (.tup [.lst [.lst [.int f00, .int f01], .lst [.int f10, .int f11]], .int q]), .fr (.adr a), .fr (.int 1), .fr (.int 1)] [.int (t00 * f00 + t01 * f10), .int (t00 * f01 + t01 * f11)] [.int 0, .int 0] rfl rfl rfl rfl ?_
    refine ⟨rfl, dm_at [d0, d1, d2, .ow (.lst [.lst [.int t00, .int t01], .lst [.int t10, .int t11]]), .fr (.int c), d5, .fr (.tup [.lst [.lst [.int f00, .int f01], .lst [.int f10, .int f11]], .int q]), .fr (.adr a), .fr (.int 1), .fr (.int 0)] [.int (t00 * f00 + t01 * f10), .int (t00 * f01 + t01 * f11)] [.int 0, .int 0] rfl rfl rfl ?_⟩
    refine ⟨mulZ 4200 500 h10 g00, mulZ 4200 500 h11 g10, rfl, 1, 0, rfl, rfl, .inr ⟨rfl, show (0 : Nat) < 2 from by decide, ?_⟩⟩
    refine forM_at [.int 1] [d0, d1, d2, .ow (.lst [.lst [.int t00, .int t01], .lst [.int t10, .int t11]]), .fr (.int c), d5, .fr (.tup [.lst [.lst [.int f00, .int f01], .lst [.int f10, .int f11]], .int q]), .fr (.adr a), .fr (.int 1), .fr (.int 0)] [.int (t00 * f00 + t01 * f10), .int (t00 * f01 + t01 * f11)] [.int (t10 * f00 + t11 * f10), .int 0] rfl rfl rfl rfl ?_
    refine ⟨rfl, dm_at [d0, d1, d2, .ow (.lst [.lst [.int t00, .int t01], .lst [.int t10, .int t11]]), .fr (.int c), d5, .fr (.tup [.lst [.lst [.int f00, .int f01], .lst [.int f10, .int f11]], .int q]), .fr (.adr a), .fr (.int 1), .fr (.int 1)] [.int (t00 * f00 + t01 * f10), .int (t00 * f01 + t01 * f11)] [.int (t10 * f00 + t11 * f10), .int 0] rfl rfl rfl ?_⟩
    refine ⟨mulZ 4200 500 h10 g01, mulZ 4200 500 h11 g11, rfl, 1, 1, rfl, rfl, .inr ⟨rfl, show (1 : Nat) < 2 from by decide, ?_⟩⟩
    refine forM_nil ?_
    refine forM_nil ?_
    refine ⟨rfl, ds_at [d0, d1, d2, .ow (.lst [.lst [.int t00, .int t01], .lst [.int t10, .int t11]]), .fr (.int c), d5, .fr (.tup [.lst [.lst [.int f00, .int f01], .lst [.int f10, .int f11]], .int q]), .fr (.lst [.lst [.int (t00 * f00 + t01 * f10), .int (t00 * f01 + t01 * f11)], .lst [.int (t10 * f00 + t11 * f10), .int (t10 * f01 + t11 * f11)]]), .fr (.int 1), .fr (.int 1)] rfl ?_⟩
    refine ⟨mulZ 4200 500 hc hq, ?_⟩
    exact hn _ _ _ _
section
variable {P : Program} {w : World} {K : Fr} {mg : Str → Option Value} {base : Heap}
/-- what a link must be for the law's own flow -/
def Stp (p S u : Nat) (l : Lk) : Prop := Szk S l.2 ∧ l.2.natAbs < 2 ^ 64 ∧ l.2 * u = cn S u l * S ∧ (cn S u l).natAbs < 1000 ∧ p * (cn S u l).natAbs ≤ 200
theorem len_eq_mul {S : Nat} (h : 0 < S) (k : Int) : (len S k).num * S = k * (len S k).den := by
  unfold len
  obtain ⟨m, hm, h1, h2⟩ := Rat.mkRat_num_den (n := k) (d := S) (n' := (mkRat k S).num) (d' := (mkRat k S).den) (z' := (mkRat k S).den_nz) (c := (mkRat k S).reduced) (by omega) rfl
  generalize (mkRat k S).num = n at h1 ⊢
  generalize (mkRat k S).den = d at h2 ⊢
  subst h1 h2
  rw [Int.natCast_mul]
  simp only [Int.mul_assoc, Int.mul_left_comm, Int.mul_comm]
theorem steps_eq {p S u : Nat} {l : Lk} (h : Stp p S u l) : (len S l.2).num * (u : Int) / ((len S l.2).den : Int) = cn S u l := by
  obtain ⟨⟨h0, _, _⟩, _, h2, _⟩ := h
  have e := len_eq_mul h0 l.2
  have hd : (0 : Int) < (len S l.2).den := den_pos' _
  have hS : (S : Int) ≠ 0 := by omega
  have e2 : (len S l.2).num * (u : Int) = cn S u l * ((len S l.2).den : Int) := by
    apply Int.eq_of_mul_eq_mul_right hS
    calc (len S l.2).num * (u : Int) * S = ((len S l.2).num * S) * u := by rw [Int.mul_assoc, Int.mul_comm (u : Int), ← Int.mul_assoc]
      _ = l.2 * ((len S l.2).den : Int) * u := by rw [e]
      _ = (l.2 * u) * ((len S l.2).den : Int) := by rw [Int.mul_assoc, Int.mul_comm ((len S l.2).den : Int), ← Int.mul_assoc]
      _ = cn S u l * S * ((len S l.2).den : Int) := by rw [h2]
      _ = cn S u l * ((len S l.2).den : Int) * S := by rw [Int.mul_assoc, Int.mul_comm (S : Int), ← Int.mul_assoc]
  rw [e2]
  exact Int.mul_ediv_cancel _ (by omega)
def ct_l_flown (K : Fr) : Ct := ⟨Nat × Nat × Nat × List Lk, fun a => [llsD a.2.1 a.2.2.2, .int a.2.2.1, .int a.1], fun a => a.1 < 100 ∧ a.2.2.1 < 2 ^ 64 ∧ a.2.2.2.length ≤ 20 ∧ ∀ l ∈ a.2.2.2, Stp a.1 a.2.1 a.2.2.1 l,
  fun a => .fr (.tup [zmD (zflown a.1 a.2.1 a.2.2.1 zI a.2.2.2).1, .int (zflown a.1 a.2.1 a.2.2.1 zI a.2.2.2).2])⟩
theorem ok_l_flown (T : Tx K mg) {fd : FuncData} (F : L2.FunD K a_l_flown.name a_l_flown.qual a_l_flown.params a_l_flown.body a_l_flown.scope [] [] (ga K "_law_flown") fd) : FnOk P w K mg base CX0 2 (ga K "_law_flown") fd ["links", "unit", "power"] ((ct_l_flown K).sp K) := by
  refine ct_ok F sc_l_flown (fun a => rfl) fun cdv A outer s H E hr => ?_
  refine ⟨_, _, (pdss_cons (pds_set 3 (pd_lst (pda_cons (pd_lst (pda_cons pd_int (pda_cons pd_int pda_nil))) (pda_cons (pd_lst (pda_cons pd_int (pda_cons pd_int pda_nil))) pda_nil))) sc_l_flown.nd)
  (pdss_cons (pds_set 4 pd_int sc_l_flown.nd)
  (pdss_cons (pds_for PassesOwn.never rfl (pdi_seq (pd_name 0)) (pdg_name 5 sc_l_flown.nd)
  (pdss_cons (pds_set 6 (pd_call (d_l_flow T) (hr.mono (by decide)) (pda_cons (pd_ix ix_seq vo_ix (pd_name 5) pd_int (fun _ _ => rfl)) (pda_cons (pd_name 2) (pda_cons (pd_op op_fdivW vo_fdiv (pd_op op_mulA vo_mul (pd_ix ix_seq vo_ix (pd_ix ix_seq vo_ix (pd_name 5) pd_int (fun _ _ => rfl)) pd_int (fun _ _ => rfl)) (pd_name 1)) (pd_ix ix_seq vo_ix (pd_ix ix_seq vo_ix (pd_name 5) pd_int (fun _ _ => rfl)) pd_int (fun _ _ => rfl))) pda_nil)))) sc_l_flown.nd)
  (pdss_mat (j := 7) (pdm_for PassesOwn.never rfl (pdi_range1 T.b_range (pda_cons pd_int pda_nil)) (pdg_name 8 sc_l_flown.nd)
  (pdms_one (pdm_for PassesOwn.never rfl (pdi_range1 T.b_range (pda_cons pd_int pda_nil)) (pdg_name 9 sc_l_flown.nd)
  (pdms_one (pdm_store (j := 7) 8 9 (pd_op op_addA vo_add (pd_op op_mulA vo_mul (pd_ix ix_seq vo_ix (pd_ix ix_seq vo_ix (pd_name 3) (pd_name 8) (fun _ _ => rfl)) pd_int (fun _ _ => rfl)) (pd_ix ix_seq vo_ix (pd_ix ix_seq vo_ix (pd_ix ix_seq vo_ix (pd_name 6) pd_int (fun _ _ => rfl)) pd_int (fun _ _ => rfl)) (pd_name 9) (fun _ _ => rfl))) (pd_op op_mulA vo_mul (pd_ix ix_seq vo_ix (pd_ix ix_seq vo_ix (pd_name 3) (pd_name 8) (fun _ _ => rfl)) pd_int (fun _ _ => rfl)) (pd_ix ix_seq vo_ix (pd_ix ix_seq vo_ix (pd_ix ix_seq vo_ix (pd_name 6) pd_int (fun _ _ => rfl)) pd_int (fun _ _ => rfl)) (pd_name 9) (fun _ _ => rfl)))))))))
  (pdss_cons (pds_set 3 (pd_name 7) sc_l_flown.nd)
  (pdss_one (pds_set 4 (pd_op op_mulA vo_mul (pd_name 4) (pd_ix ix_seq vo_ix (pd_name 6) pd_int (fun _ _ => rfl))) sc_l_flown.nd))) sc_l_flown.nd)))
  (pdss_one (pds_ret (pd_tup (pda_cons (pd_name 3) (pda_cons (pd_name 4) pda_nil)))))))), ?_⟩
  rintro ⟨p, S, u, ls⟩ ⟨h1, h2, h3, h4⟩
  have h1 : p < 100 := h1
  have h2 : u < 2 ^ 64 := h2
  have h3 : ls.length ≤ 20 := h3
  have h4 : ∀ l ∈ ls, Stp p S u l := h4
  refine forD_ind (f := llD S) (fun r ρ => ∃ (Z : Z2 × Nat) (T s5 s6 s7 s8 s9 : Sl) (m : Nat), ρ = [.fr (llsD S ls), .fr (.int u), .fr (.int p), T, .fr (.int Z.2), s5, s6, s7, s8, s9] ∧ (T = .fr (zmD Z.1) ∨ T = .ow (.lst [.lst [.int Z.1.1.1, .int Z.1.1.2], .lst [.int Z.1.2.1, .int Z.1.2.2]])) ∧ zflown p S u Z r = zflown p S u zI ls ∧ (∀ x ∈ r, x ∈ ls) ∧ Zs m Z ∧ m + r.length * 205 ≤ 4100)
    ⟨zI, _, .un, .un, .un, .un, .un, 0, rfl, .inr rfl, rfl, fun x hx => hx, zs_I, by omega⟩ ?_ ?_
  · rintro x r ρ ⟨Z, T, s5, s6, s7, s8, s9, m, rfl, hT, e1, e2, e3, e4⟩ nx hn
    have st := h4 x (e2 x List.mem_cons_self)
    obtain ⟨k1, k2, k3, k4, k5⟩ := id st
    have hnum := len_num_le k1.1 x.2
    have hdp := (len S x.2).den_pos
    have hdd : (((len S x.2).den : Nat) : Int).natAbs < 2 ^ 9000 := Nat.lt_trans (show (((len S x.2).den : Nat) : Int).natAbs < 2 ^ 900 by rw [Int.natAbs_natCast]; exact k1.sz.2) (Nat.pow_lt_pow_right (by decide) (by decide))
    refine ⟨mulS (show (len S x.2).num.natAbs < 2 ^ 100 by omega) (show (u : Int).natAbs < 2 ^ 100 by omega), div_ok (by omega) hdd, ?_⟩
    refine ⟨(p, x.1, cn S u x), ?_, ⟨h1, k4, show p * (cn S u x).natAbs ≤ 400 by omega⟩, ?_⟩
    · show [D.str x.1.s, .int p, .int ((len S x.2).num * (u : Int) / ((len S x.2).den : Int))] = [.str x.1.s, .int p, .int (cn S u x)]
      rw [steps_eq st]
    · have zf := (zs_flow (pt := x.1) k5)
      have z2 := e3.mul zf
      rw [List.length_cons, Nat.add_mul] at e4
      have up : ∀ {n m a : Nat}, a ≤ 2 ^ n → n < m → a < 2 ^ m := fun h hl => Nat.lt_of_le_of_lt h (Nat.pow_lt_pow_right (by decide) hl)
      obtain ⟨a1, a2, a3, a4, a5⟩ := e3
      obtain ⟨b1, b2, b3, b4, b5⟩ := zf
      refine ds_at (t := rdG) [.fr (llsD S ls), .fr (.int u), .fr (.int p), T, .fr (.int Z.2), .fr (llD S x), .fr (.tup [zmD (zflow p x.1 (cn S u x)).1, .int (zflow p x.1 (cn S u x)).2]), s7, s8, s9] rfl ?_
      refine rdG_ok hT (up a1 (by omega)) (up a2 (by omega)) (up a3 (by omega)) (up a4 (by omega)) (by rw [Int.natAbs_natCast]; exact up a5 (by omega)) (up b1 (by omega)) (up b2 (by omega)) (up b3 (by omega)) (up b4 (by omega)) (by rw [Int.natAbs_natCast]; exact up b5 (by omega)) fun s5 s7 s8 s9 => ?_
      refine hn _ ⟨(zmul Z.1 (zflow p x.1 (cn S u x)).1, Z.2 * (zflow p x.1 (cn S u x)).2), _, .fr (llD S x), s5, s7, s8, s9, _, ?_, .inl rfl, e1, fun y hy => e2 y (List.mem_cons_of_mem _ hy), z2, by omega⟩
      rw [Int.natCast_mul]
      rfl
  · rintro ρ ⟨Z, T, s5, s6, s7, s8, s9, m, rfl, hT, e1, e2, e3, e4⟩
    have e1 : Z = zflown p S u zI ls := e1
    subst e1
    rcases hT with rfl | rfl
    · rfl
    · rfl
theorem d_l_flown (T : Tx K mg) : Gd P w K mg base "_law_flown" 2 [] ((ct_l_flown K).sp K) := by
  obtain ⟨fd, F⟩ := T.d_l_flown
  exact gd_of T.g_l_flown F.kp (F.bindsN fun _ _ _ _ _ _ us hl => match us, hl with | [_, _, _], _ => rfl) (ok_l_flown T F)
end
end W86
end
section
set_option Elab.async false
set_option linter.all false
set_option maxRecDepth 100000
set_option maxHeartbeats 1000000
set_option exponentiation.threshold 100000
/-! WP: the law's own checks. -/
namespace W86
open PySem PySem.Spec PyProof.Rows L2 Evl DL
open He (ga ma)
open He5 (wf)
theorem sz1' : Sz 4000 1 := sz1.mono (by decide)
theorem eqB (a b : Bool) : PyData.eqv (.bool a) (.bool b) = (a == b) := by
  cases a <;> cases b <;> decide +kernel
section
variable {P : Program} {w : World} {K : Fr} {mg : Str → Option Value} {base : Heap}
def ct_l_is_link (K : Fr) : Ct := ⟨Nat × Lk, fun a => [lkD K a.1 a.2, llD a.1 a.2], fun _ => True, fun _ => .fr (.bl true)⟩
theorem ok_l_is_link (T : Tx K mg) {fd : FuncData} (F : L2.FunD K a_l_is_link.name a_l_is_link.qual a_l_is_link.params a_l_is_link.body a_l_is_link.scope [] [] (ga K "_law_is_link") fd) : FnOk P w K mg base CX0 5 (ga K "_law_is_link") fd ["told", "link"] ((ct_l_is_link K).sp K) := by
  refine ct_ok F sc_l_is_link (fun a => rfl) fun cdv A outer s H E hr => ?_
  refine ⟨_, _, (pdss_cons (pds_if (PDW.pdt (pdw_or (pdt_not (pdt_val (pd_isC T.i_Link T.b_isinstance (pd_name 0)))) (pdw_or (pdt_cmp (op_neD hr.units) vo_ne (pd_fld T.f_Link_part (pd_name 0)) (pd_ix ix_seq vo_ix (pd_name 1) pd_int (fun _ _ => rfl)) (nomark _)) (pdw_or1 (pdt_cmp (op_neD hr.units) vo_ne (pd_fld T.f_Link_length (pd_name 0)) (pd_ix ix_seq vo_ix (pd_name 1) pd_int (fun _ _ => rfl)) (nomark _)))))) (pdss_one (pds_ret pd_bl)) pdss_nil)
  (pdss_cons (pds_if (PDW.pdt (pdw_or (pdt_not (pdt_val (pd_call (d_l_is_row T) (hr.mono (by decide)) (pda_cons (pd_fld T.f_Func_num (pd_fld T.f_Link_func (pd_name 0))) pda_nil)))) (pdw_or1 (pdt_not (pdt_val (pd_call (d_l_is_row T) (hr.mono (by decide)) (pda_cons (pd_fld T.f_Func_den (pd_fld T.f_Link_func (pd_name 0))) pda_nil))))))) (pdss_one (pds_ret pd_bl)) pdss_nil)
  (pdss_one (pds_ret (pd_cmp (op_eqD hr.units) vo_eq (pd_call (d_l_pmul T) (hr.mono (by decide)) (pda_cons (pd_fld T.f_Func_num (pd_fld T.f_Link_func (pd_name 0))) (pda_cons (pd_ix ix_seq vo_ix (pd_name 1) pd_int (fun _ _ => rfl)) pda_nil))) (pd_call (d_l_pmul T) (hr.mono (by decide)) (pda_cons (pd_fld T.f_Func_den (pd_fld T.f_Link_func (pd_name 0))) (pda_cons (pd_ix ix_seq vo_ix (pd_name 1) pd_int (fun _ _ => rfl)) pda_nil))) (nomark _)))))), ?_⟩
  rintro ⟨S, l⟩ _
  refine ⟨⟨_, _, rfl⟩, ⟨rfl, rfl⟩, ?_⟩
  refine obB_iff.mpr ⟨shP l.1 l.1, ?_⟩
  refine ite2 (fun h => ?_) (fun h => ?_)
  · have h : (!PyData.eqv (.str l.1.s) (.str l.1.s)) = true := h
    rw [eqP] at h
    simp at h
  · refine ⟨⟨rfl, rfl⟩, ?_⟩
    refine ite2 (fun h => ?_) (fun h => ?_)
    · have h : (!PyData.eqv (.tuple [.int (len S l.2).num, .int (len S l.2).den]) (.tuple [.int (len S l.2).num, .int (len S l.2).den])) = true := h
      rw [eq_num] at h
      simp at h
    · refine ⟨⟨rfl, rfl⟩, ⟨rfl, rfl⟩, [(1 : Rat)], rfl, fun x hx => by simp at hx; subst hx; exact sz1', ?_⟩
      refine ⟨⟨rfl, rfl⟩, ⟨rfl, rfl⟩, [(1 : Rat)], rfl, fun x hx => by simp at hx; subst hx; exact sz1', ?_⟩
      refine ⟨⟨rfl, rfl⟩, ⟨rfl, rfl⟩, (), rfl, trivial, ?_⟩
      refine ⟨⟨rfl, rfl⟩, ⟨rfl, rfl⟩, (), rfl, trivial, ?_⟩
      rfl
theorem d_l_is_link (T : Tx K mg) : Gd P w K mg base "_law_is_link" 5 [] ((ct_l_is_link K).sp K) := by
  obtain ⟨fd, F⟩ := T.d_l_is_link
  exact gd_of T.g_l_is_link F.kp (F.bindsN fun _ _ _ _ _ _ us hl => match us, hl with | [_, _], _ => rfl) (ok_l_is_link T F)
def ct_l_is_links (K : Fr) : Ct := ⟨RA, fun a => [rowD K a.1 a.2, llsD a.1 a.2], fun a => a.2.length ≤ 600, fun _ => .fr (.bl true)⟩
theorem ok_l_is_links (T : Tx K mg) {fd : FuncData} (F : L2.FunD K a_l_is_links.name a_l_is_links.qual a_l_is_links.params a_l_is_links.body a_l_is_links.scope [] [] (ga K "_law_is_links") fd) : FnOk P w K mg base CX0 6 (ga K "_law_is_links") fd ["told", "links"] ((ct_l_is_links K).sp K) := by
  refine ct_ok F sc_l_is_links (fun a => rfl) fun cdv A outer s H E hr => ?_
  refine ⟨_, _, (pdss_cons (pds_if (PDW.pdt (pdw_or (pdt_not (pdt_val (pd_isC T.i_Row T.b_isinstance (pd_name 0)))) (pdw_or (pdt_not (pdt_val (pd_isB k_tup T.b_isinstance T.b_tuple (pd_fld T.f_Row_links (pd_name 0))))) (pdw_or1 (pdt_cmp (op_neD hr.units) vo_ne (pd_callB1 call_lenA vo_len T.b_len (pd_fld T.f_Row_links (pd_name 0))) (pd_callB1 call_lenA vo_len T.b_len (pd_name 1)) (nomark _)))))) (pdss_one (pds_ret pd_bl)) pdss_nil)
  (pdss_cons (pds_for PassesOwn.never rfl (pdi_range1 T.b_range (pda_cons (pd_callB1 call_lenA vo_len T.b_len (pd_name 1)) pda_nil)) (pdg_name 2 sc_l_is_links.nd)
  (pdss_one (pds_if (pdt_not (pdt_val (pd_call (d_l_is_link T) (hr.mono (by decide)) (pda_cons (pd_ix ix_seq vo_ix (pd_fld T.f_Row_links (pd_name 0)) (pd_name 2) (fun _ _ => rfl)) (pda_cons (pd_ix ix_seq vo_ix (pd_name 1) (pd_name 2) (fun _ _ => rfl)) pda_nil))))) (pdss_one (pds_ret pd_bl)) pdss_nil)))
  (pdss_one (pds_ret pd_bl)))), ?_⟩
  rintro ⟨S, ls⟩ h
  have h : ls.length ≤ 600 := h
  refine ⟨⟨_, _, rfl⟩, ⟨rfl, rfl⟩, ⟨rfl, rfl⟩, ?_⟩
  refine ite2 (fun h' => ?_) (fun h' => ?_)
  · have h' : (!PyData.eqv (.int ((ls.map (lkD K S)).length : Nat)) (.int ((ls.map (llD S)).length : Nat))) = true := h'
    rw [eqI, List.length_map, List.length_map] at h'
    simp at h'
  · refine ⟨show ((ls.map (llD S)).length : Int) ≤ 100000 ∧ (-100000 : Int) ≤ ((ls.map (llD S)).length : Nat) by rw [List.length_map]; omega, ?_⟩
    refine forD_rng (fun _ ρ => ∃ s2, ρ = [.fr (rowD K S ls), .fr (llsD S ls), s2]) ⟨.un, rfl⟩ ?_ ?_
    · rintro i ρ hi ⟨s2, rfl⟩ nx hn
      have hi : i < ((ls.map (llD S)).length : Int).toNat := hi
      rw [List.length_map, Int.toNat_natCast] at hi
      have e0 : (0 : Int) + (i : Int) = (i : Int) := Int.zero_add _
      have g1 : atI (ls.map (lkD K S)) ((0 : Int) + (i : Int)) = some (lkD K S ls[i]) := by
        rw [e0]
        exact atI_nat' (by rw [List.getElem?_map, List.getElem?_eq_getElem hi]; rfl)
      have g2 : atI (ls.map (llD S)) ((0 : Int) + (i : Int)) = some (llD S ls[i]) := by
        rw [e0]
        exact atI_nat' (by rw [List.getElem?_map, List.getElem?_eq_getElem hi]; rfl)
      refine ⟨⟨rfl, rfl⟩, ?_⟩
      refine ob_iff.mpr ⟨_, rfl, ?_⟩
      refine ob_iff.mpr ⟨_, g1, ?_⟩
      refine ob_iff.mpr ⟨_, g2, ?_⟩
      refine ⟨(S, ls[i]), rfl, trivial, ?_⟩
      exact hn _ ⟨_, rfl⟩
    · rintro ρ ⟨s2, rfl⟩
      rfl
theorem d_l_is_links (T : Tx K mg) : Gd P w K mg base "_law_is_links" 6 [] ((ct_l_is_links K).sp K) := by
  obtain ⟨fd, F⟩ := T.d_l_is_links
  exact gd_of T.g_l_is_links F.kp (F.bindsN fun _ _ _ _ _ _ us hl => match us, hl with | [_, _], _ => rfl) (ok_l_is_links T F)
def ct_l_some_below (K : Fr) : Ct := ⟨RA, fun a => [llsD a.1 a.2], fun a => 0 < a.1, fun a => .fr (.bl (!fwd a.2))⟩
theorem ok_l_some_below (T : Tx K mg) {fd : FuncData} (F : L2.FunD K a_l_some_below.name a_l_some_below.qual a_l_some_below.params a_l_some_below.body a_l_some_below.scope [] [] (ga K "_law_some_below") fd) : FnOk P w K mg base CX0 1 (ga K "_law_some_below") fd ["links"] ((ct_l_some_below K).sp K) := by
  refine ct_ok F sc_l_some_below (fun a => rfl) fun cdv A outer s H E hr => ?_
  refine ⟨_, _, (pdss_cons (pds_for PassesOwn.never rfl (pdi_seq (pd_name 0)) (pdg_name 1 sc_l_some_below.nd)
  (pdss_one (pds_if (pdt_cmp op_lt vo_cmp (pd_ix ix_seq vo_ix (pd_ix ix_seq vo_ix (pd_name 1) pd_int (fun _ _ => rfl)) pd_int (fun _ _ => rfl)) pd_int (nomark _)) (pdss_one (pds_ret pd_bl)) pdss_nil)))
  (pdss_one (pds_ret pd_bl))), ?_⟩
  rintro ⟨S, ls⟩ h
  have h : 0 < S := h
  refine forD_ind (f := llD S) (fun r ρ => ∃ s1, ρ = [.fr (llsD S ls), s1] ∧ fwd ls = fwd r) ⟨.un, rfl, rfl⟩ ?_ ?_
  · rintro x r ρ ⟨s1, rfl, e⟩ nx hn
    have ex : fwd (x :: r) = (decide (0 ≤ x.2) && fwd r) := by unfold fwd; rw [List.all_cons]
    have sg := len_sign h x.2
    refine ite2 (fun hc => ?_) (fun hc => ?_)
    · have hc : (len S x.2).num < 0 := of_decide_eq_true hc
      have hx : x.2 < 0 := by
        rw [Int.sign_eq_neg_one_of_neg hc] at sg
        exact Int.sign_eq_neg_one_iff_neg.mp sg.symm
      show Res.fr (.bl (!fwd ls)) = Res.fr (.bl true)
      rw [e, ex, decide_eq_false (by omega)]
      rfl
    · have hc : ¬ (len S x.2).num < 0 := fun z => hc (decide_eq_true z)
      have hx : 0 ≤ x.2 := by
        have : 0 ≤ (len S x.2).num.sign := Int.sign_nonneg_iff.mpr (by omega)
        rw [sg] at this
        exact Int.sign_nonneg_iff.mp this
      refine hn _ ⟨_, rfl, ?_⟩
      rw [e, ex, decide_eq_true hx, Bool.true_and]
  · rintro ρ ⟨s1, rfl, e⟩
    show Res.fr (.bl (!fwd ls)) = Res.fr (.bl false)
    rw [e]
    rfl
theorem d_l_some_below (T : Tx K mg) : Gd P w K mg base "_law_some_below" 1 [] ((ct_l_some_below K).sp K) := by
  obtain ⟨fd, F⟩ := T.d_l_some_below
  exact gd_of T.g_l_some_below F.kp (F.bindsN fun _ _ _ _ _ _ us hl => match us, hl with | [_], _ => rfl) (ok_l_some_below T F)
def ct_l_unit (K : Fr) : Ct := ⟨RA, fun a => [llsD a.1 a.2], fun a => 0 < a.1 ∧ a.1 < 2 ^ 64, fun a => .fr (.int (unitOf a.1 a.2))⟩
theorem ok_l_unit (T : Tx K mg) {fd : FuncData} (F : L2.FunD K a_l_unit.name a_l_unit.qual a_l_unit.params a_l_unit.body a_l_unit.scope [] [] (ga K "_law_unit") fd) : FnOk P w K mg base CX0 2 (ga K "_law_unit") fd ["links"] ((ct_l_unit K).sp K) := by
  refine ct_ok F sc_l_unit (fun a => rfl) fun cdv A outer s H E hr => ?_
  refine ⟨_, _, (pdss_cons (pds_set 1 pd_int sc_l_unit.nd)
  (pdss_cons (pds_for PassesOwn.never rfl (pdi_seq (pd_name 0)) (pdg_name 2 sc_l_unit.nd)
  (pdss_one (pds_set 1 (pd_op op_fdivW vo_fdiv (pd_op op_mulA vo_mul (pd_name 1) (pd_ix ix_seq vo_ix (pd_ix ix_seq vo_ix (pd_name 2) pd_int (fun _ _ => rfl)) pd_int (fun _ _ => rfl))) (pd_call (d_l_gcd T) (hr.mono (by decide)) (pda_cons (pd_name 1) (pda_cons (pd_ix ix_seq vo_ix (pd_ix ix_seq vo_ix (pd_name 2) pd_int (fun _ _ => rfl)) pd_int (fun _ _ => rfl)) pda_nil)))) sc_l_unit.nd)))
  (pdss_one (pds_ret (pd_name 1))))), ?_⟩
  rintro ⟨S, ls⟩ ⟨h0, h1⟩
  have h0 : 0 < S := h0
  have h1 : S < 2 ^ 64 := h1
  refine forD_ind (f := llD S) (fun r ρ => ∃ (m : Nat) (s2 : Sl), ρ = [.fr (llsD S ls), .fr (.int m), s2] ∧ m ∣ S ∧ r.foldl (fun u l => Nat.lcm u (len S l.2).den) m = unitOf S ls) ⟨1, .un, rfl, Nat.one_dvd S, rfl⟩ ?_ ?_
  · rintro x r ρ ⟨m, s2, rfl, e1, e2⟩ nx hn
    have hd := den_dvd S h0 x.2
    have l1 : m ≤ S := Nat.le_of_dvd h0 e1
    have l2 : (len S x.2).den ≤ S := Nat.le_of_dvd h0 hd
    have hp := (len S x.2).den_pos
    have eg : Int.gcd (m : Int) (((len S x.2).den : Nat) : Int) = Nat.gcd m (len S x.2).den := rfl
    have gp : 0 < Nat.gcd m (len S x.2).den := Nat.gcd_pos_of_pos_right _ hp
    have gl : Nat.gcd m (len S x.2).den ≤ (len S x.2).den := Nat.le_of_dvd hp (Nat.gcd_dvd_right _ _)
    have e64 : (2 : Nat) ^ 64 < 2 ^ 4000 := Nat.pow_lt_pow_right (by decide) (by decide)
    have e65 : (2 : Nat) ^ 64 < 2 ^ 9000 := Nat.pow_lt_pow_right (by decide) (by decide)
    refine ⟨mulS (show (m : Int).natAbs < 2 ^ 100 by omega) (show (((len S x.2).den : Nat) : Int).natAbs < 2 ^ 100 by omega), ?_⟩
    refine ⟨((m : Int), (((len S x.2).den : Nat) : Int)), rfl, ⟨show (m : Int).natAbs < 2 ^ 4000 by omega, show (((len S x.2).den : Nat) : Int).natAbs < 2 ^ 4000 by omega⟩, ?_⟩
    refine ⟨div_ok (show (0 : Int) < ((Int.gcd (m : Int) (((len S x.2).den : Nat) : Int) : Nat) : Int) by rw [eg]; omega) (by rw [Int.natAbs_natCast]; show Int.gcd (m : Int) (((len S x.2).den : Nat) : Int) < 2 ^ 9000; rw [eg]; omega), ?_⟩
    refine hn _ ⟨Nat.lcm m (len S x.2).den, .fr (llD S x), rfl, Nat.lcm_dvd e1 hd, e2⟩
  · rintro ρ ⟨m, s2, rfl, e1, e2⟩
    have e2 : m = unitOf S ls := e2
    subst e2
    rfl
theorem d_l_unit (T : Tx K mg) : Gd P w K mg base "_law_unit" 2 [] ((ct_l_unit K).sp K) := by
  obtain ⟨fd, F⟩ := T.d_l_unit
  exact gd_of T.g_l_unit F.kp (F.bindsN fun _ _ _ _ _ _ us hl => match us, hl with | [_], _ => rfl) (ok_l_unit T F)
end
end W86
end
section
set_option Elab.async false
set_option linter.all false
set_option maxRecDepth 100000
set_option maxHeartbeats 1000000
set_option exponentiation.threshold 100000
/-! WQ: the law's own rounding, what it says of growth and flows. -/
namespace W86
open PySem PySem.Spec PyProof.Rows L2 Evl DL
open He (ga ma)
open He5 (wf)
theorem cutMid {x y : D} {xs : List D} : DL.cutD (x :: (xs ++ [y])) (some 1) (some ((((x :: (xs ++ [y])).length : Nat) : Int) - 1)) = xs := by
  have e : (((x :: (xs ++ [y])).length : Nat) : Int) - 1 = ((xs.length + 1 : Nat) : Int) := by simp
  rw [e]
  unfold DL.cutD
  have e1 : HT.sIx (x :: (xs ++ [y])).length 0 (some (1 : Int)) = 1 := by
    have := HT.sIx_nat (n := (x :: (xs ++ [y])).length) (d := 0) (k := 1)
    first
      | (rw [show (1 : Int) = ((1 : Nat) : Int) from rfl, HT.sIx_nat]; simp)
  have e2 : HT.sIx (x :: (xs ++ [y])).length (x :: (xs ++ [y])).length (some (((xs.length + 1 : Nat) : Int))) = xs.length + 1 := by
    rw [HT.sIx_nat]
    simp
  rw [e1, e2]
  simp
section
variable {P : Program} {w : World} {K : Fr} {mg : Str → Option Value} {base : Heap}
theorem cyc_le (r : List Lk) : (cyc r).length ≤ r.length := rndP_le _ _ _
def ct_l_rounded (K : Fr) : Ct := ⟨RA, fun a => [llsD a.1 a.2], fun a => Fit a.1 a.2, fun a => .ow (.lst ((rounded' a.2).1.map (llD a.1)))⟩
theorem ok_l_rounded (T : Tx K mg) {fd : FuncData} (F : L2.FunD K a_l_rounded.name a_l_rounded.qual a_l_rounded.params a_l_rounded.body a_l_rounded.scope [] [] (ga K "_law_rounded") fd) : FnOk P w K mg base CX0 6 (ga K "_law_rounded") fd ["links"] ((ct_l_rounded K).sp K) := by
  refine ct_ok F sc_l_rounded (fun a => rfl) fun cdv A outer s H E hr => ?_
  refine ⟨_, _, (pdss_cons (pds_set 1 (pd_call (d_l_reduced T) (hr.mono (by decide)) (pda_cons (pd_name 0) pda_nil)) sc_l_rounded.nd)
  (pdss_cons (pds_for PassesOwn.never rfl (pdi_range1 T.b_range (pda_cons (pd_callB1 call_lenA vo_len T.b_len (pd_name 0)) pda_nil)) (pdg_name 2 sc_l_rounded.nd)
  (pdss_one (pds_if (PDW.pdt (pdw_and (pdt_cmp op_gt vo_cmp (pd_callB1 call_lenA vo_len T.b_len (pd_name 1)) pd_int (nomark _)) (pdw_and1 (pdt_cmp (op_eqD hr.units) vo_eq (pd_ix ix_seq vo_ix (pd_ix ix_seq vo_ix (pd_name 1) pd_int (fun _ _ => rfl)) pd_int (fun _ _ => rfl)) (pd_ix ix_seq vo_ix (pd_ix ix_seq vo_ix (pd_name 1) (pd_op op_sub vo_sub (pd_callB1 call_lenA vo_len T.b_len (pd_name 1)) pd_int) (fun _ _ => rfl)) pd_int (fun _ _ => rfl)) (nomark _))))) (pdss_cons (pds_set 3 (pd_ix ix_seq vo_ix (pd_name 1) (pd_op op_sub vo_sub (pd_callB1 call_lenA vo_len T.b_len (pd_name 1)) pd_int) (fun _ _ => rfl)) sc_l_rounded.nd)
  (pdss_cons (pds_set 4 (pd_call (d_l_add T) (hr.mono (by decide)) (pda_cons (pd_ix ix_seq vo_ix (pd_name 3) pd_int (fun _ _ => rfl)) (pda_cons (pd_ix ix_seq vo_ix (pd_ix ix_seq vo_ix (pd_name 1) pd_int (fun _ _ => rfl)) pd_int (fun _ _ => rfl)) pda_nil))) sc_l_rounded.nd)
  (pdss_cons (pds_set 1 (pd_slice sl_any vo_sl (pd_name 1) (pdo_some pd_int) (pdo_some (pd_op op_sub vo_sub (pd_callB1 call_lenA vo_len T.b_len (pd_name 1)) pd_int))) sc_l_rounded.nd)
  (pdss_one (pds_if (pdt_cmp (op_neD hr.units) vo_ne (pd_ix ix_seq vo_ix (pd_name 4) pd_int (fun _ _ => rfl)) pd_int (nomark _)) (pdss_one (pds_set 1 (pd_op op_addA vo_add (pd_lst (pda_cons (pd_call (d_l_true T) (hr.mono (by decide)) (pda_cons (pd_ix ix_seq vo_ix (pd_name 3) pd_int (fun _ _ => rfl)) (pda_cons (pd_name 4) pda_nil))) pda_nil)) (pd_name 1)) sc_l_rounded.nd)) pdss_nil))))) pdss_nil)))
  (pdss_one (pds_ret (pd_name 1))))), ?_⟩
  rintro ⟨S, ls⟩ h
  have h : Fit S ls := h
  obtain ⟨f1, f2, f3, f4⟩ := id h
  refine ⟨(S, ls), rfl, h, ?_⟩
  have lm : (ls.map (llD S)).length = ls.length := List.length_map _
  refine ⟨show (((ls.map (llD S)).length : Nat) : Int) ≤ 100000 ∧ (-100000 : Int) ≤ ((ls.map (llD S)).length : Nat) by rw [lm]; omega, ?_⟩
  refine forD_rng (fun i ρ => ∃ ms s2 s3 s4, ρ = [.fr (llsD S ls), .ow (.lst (ms.map (llD S))), s2, s3, s4] ∧ cyc ms = (rounded' ls).1 ∧ (ms.length + i ≤ ls.length ∨ cyc ms = ms) ∧ wt ms ≤ wt ls ∧ ms.length ≤ ls.length) ⟨red ls, .un, .un, .un, rfl, (rounded_cyc ls).symm, .inl (by have := red_le ls; omega), red_wt ls, red_le ls⟩ ?_ ?_
  · rintro i ρ hi ⟨ms, s2, s3, s4, rfl, e1, e2, e3, e4⟩ nx hn
    rcases List.eq_nil_or_concat ms with rfl | ⟨ms', l, rfl⟩
    · exact hn _ ⟨[], _, _, _, rfl, e1, .inr rfl, e3, e4⟩
    · rw [List.concat_eq_append] at *
      cases ms' with
      | nil => exact hn _ ⟨[l], _, _, _, rfl, e1, .inr (cyc_short (by simp)), e3, e4⟩
      | cons f m =>
        simp only [List.cons_append, List.length_cons, List.length_append, List.length_nil, wt_cons, wt_app, wt_one] at e1 e2 e3 e4 hn ⊢
        have sf : Szk S f.2 := ⟨f1, f2, by omega⟩
        have sl : Szk S l.2 := ⟨f1, f2, by omega⟩
        have em : (f :: (m ++ [l])).map (llD S) = llD S f :: (m.map (llD S) ++ [llD S l]) := by simp
        have em2 : llD S f :: (m.map (llD S) ++ [llD S l]) = (llD S f :: m.map (llD S)) ++ [llD S l] := rfl
        rw [em]
        refine iteT' (decide_eq_true (show (1 : Int) < ((llD S f :: (m.map (llD S) ++ [llD S l])).length : Nat) by simp; omega)) ?_
        refine ob_iff.mpr ⟨llD S f, atI0, ?_⟩
        have g1 : atI (llD S f :: (m.map (llD S) ++ [llD S l])) ((((llD S f :: (m.map (llD S) ++ [llD S l])).length : Nat) : Int) - 1) = some (llD S l) := atI_end (llD S f :: m.map (llD S)) (llD S l)
        refine ob_iff.mpr ⟨llD S l, g1, ?_⟩
        refine obB_iff.mpr ⟨shP f.1 l.1, ?_⟩
        refine ite2 (fun hp => ?_) (fun hp => ?_)
        · have hp : f.1 = l.1 := of_decide_eq_true (eqP f.1 l.1 ▸ hp)
          refine ob_iff.mpr ⟨llD S l, g1, ?_⟩
          refine ob_iff.mpr ⟨llD S f, atI0, ?_⟩
          refine ⟨(len S l.2, len S f.2), rfl, ⟨sl.sz, sf.sz⟩, ?_⟩
          rw [cyc_step hp] at e1
          have nst : ¬ cyc (f :: (m ++ [l])) = f :: (m ++ [l]) := fun z => by
            have z1 := congrArg List.length z
            rw [cyc_step hp] at z1
            have z2 := cyc_le (if l.2 + f.2 = 0 then m else (l.1, l.2 + f.2) :: m)
            have z3 : (if l.2 + f.2 = 0 then m else (l.1, l.2 + f.2) :: m).length ≤ m.length + 1 := by
              split
              · omega
              · exact Nat.le_refl _
            simp only [List.length_cons, List.length_append, List.length_nil] at z1
            omega
          have e5 : m.length + (0 + 1) + 1 + i ≤ ls.length := by
            rcases e2 with e2 | e2
            · exact e2
            · exact absurd e2 nst
          refine ite2 (fun hc => ?_) (fun hc => ?_)
          · have hc : l.2 + f.2 ≠ 0 := fun z => by
              have hc : (!(PyData.eqv (.int (len S l.2 + len S f.2).num) (.int 0))) = true := hc
              rw [eqI, len_add f1, decide_eq_true ((len_num f1 _).mpr z)] at hc
              cases hc
            rw [if_neg hc] at e1
            have lc : ([D.tup [.str l.1.s, num (len S l.2 + len S f.2), P1, P1]] : List D).length + (DL.cutD (llD S f :: (m.map (llD S) ++ [llD S l])) (some 1) (some ((((llD S f :: (m.map (llD S) ++ [llD S l])).length : Nat) : Int) - 1))).length ≤ 100000 := by
              rw [cutMid, List.length_map, List.length_singleton]
              omega
            refine ⟨(l.1, len S l.2 + len S f.2), rfl, trivial, lc, ?_⟩
            refine hn _ ⟨(l.1, l.2 + f.2) :: m, .fr (.int (0 + (i : Int))), .fr (llD S l), .fr (num (len S l.2 + len S f.2)), ?_, e1, .inl (by rw [List.length_cons]; omega), ?_, by rw [List.length_cons]; omega⟩
            · show [_, Sl.ow (.lst ([D.tup [.str l.1.s, num (len S l.2 + len S f.2), P1, P1]] ++ DL.cutD (llD S f :: (m.map (llD S) ++ [llD S l])) (some 1) (some ((((llD S f :: (m.map (llD S) ++ [llD S l])).length : Nat) : Int) - 1)))), _, _, _] = _
              rw [cutMid, len_add f1]
              rfl
            · rw [wt_cons]
              show (l.2 + f.2).natAbs + wt m ≤ wt ls
              omega
          · have hc : l.2 + f.2 = 0 := by
              have hc : ¬ (!(PyData.eqv (.int (len S l.2 + len S f.2).num) (.int 0))) = true := hc
              rw [eqI, len_add f1] at hc
              exact (len_num f1 _).mp (by simpa using hc)
            rw [if_pos hc] at e1
            refine hn _ ⟨m, .fr (.int (0 + (i : Int))), .fr (llD S l), .fr (num (len S l.2 + len S f.2)), ?_, e1, .inl (by omega), by omega, by omega⟩
            show [_, Sl.ow (.lst (DL.cutD (llD S f :: (m.map (llD S) ++ [llD S l])) (some 1) (some ((((llD S f :: (m.map (llD S) ++ [llD S l])).length : Nat) : Int) - 1)))), _, _, _] = _
            rw [cutMid]
        · have hp : f.1 ≠ l.1 := fun z => hp (by rw [eqP]; exact decide_eq_true z)
          refine hn _ ⟨f :: (m ++ [l]), .fr (.int (0 + (i : Int))), s3, s4, ?_, e1, .inr (cyc_stop hp), ?_, ?_⟩
          · rw [em]
            rfl
          · simp only [wt_cons, wt_app, wt_one]
            omega
          · simp only [List.length_cons, List.length_append, List.length_nil]
            omega
  · rintro ρ ⟨ms, s2, s3, s4, rfl, e1, e2, e3, e4⟩
    have e5 : cyc ms = ms := by
      rcases e2 with e2 | e2
      · have e2 : ms.length + (((ls.map (llD S)).length : Nat) : Int).toNat ≤ ls.length := e2
        rw [lm, Int.toNat_natCast] at e2
        exact cyc_short (by omega)
      · exact e2
    have e6 : ms = (rounded' ls).1 := e5.symm.trans e1
    subst e6
    rfl
theorem d_l_rounded (T : Tx K mg) : Gd P w K mg base "_law_rounded" 6 [] ((ct_l_rounded K).sp K) := by
  obtain ⟨fd, F⟩ := T.d_l_rounded
  exact gd_of T.g_l_rounded F.kp (F.bindsN fun _ _ _ _ _ _ us hl => match us, hl with | [_], _ => rfl) (ok_l_rounded T F)
/-- what is said of a row -/
def ct_l_said (K : Fr) : Ct := ⟨RA × Bool × Bool, fun a => [rowD K a.1.1 a.1.2, .bl a.2.1, .bl a.2.2], fun a => Fit a.1.1 a.1.2 ∧ a.2.1 = !fwd (red a.1.2) ∧ a.2.2 = !fwd (rounded' a.1.2).1, fun _ => .fr (.bl true)⟩
theorem ok_l_said (T : Tx K mg) {fd : FuncData} (F : L2.FunD K a_l_said.name a_l_said.qual a_l_said.params a_l_said.body a_l_said.scope [] [] (ga K "_law_said") fd) : FnOk P w K mg base CX0 16 (ga K "_law_said") fd ["row", "once", "ever"] ((ct_l_said K).sp K) := by
  refine ct_ok F sc_l_said (fun a => rfl) fun cdv A outer s H E hr => ?_
  refine ⟨_, _, (pdss_cons (pds_set 3 (pd_call (d_grows_once T) (hr.mono (by decide)) (pda_cons (pd_name 0) pda_nil)) sc_l_said.nd)
  (pdss_cons (pds_set 4 (pd_call (d_grows_ever T) (hr.mono (by decide)) (pda_cons (pd_name 0) pda_nil)) sc_l_said.nd)
  (pdss_cons (pds_if (PDW.pdt (pdw_or (pdt_not (pdt_val (pd_isB k_bool T.b_isinstance T.b_bool (pd_name 3)))) (pdw_or1 (pdt_not (pdt_val (pd_isB k_bool T.b_isinstance T.b_bool (pd_name 4))))))) (pdss_one (pds_ret pd_bl)) pdss_nil)
  (pdss_one (pds_ret (pd_and (pd_cmp (op_eqD hr.units) vo_eq (pd_name 3) (pd_name 1) (nomark _)) (pd_one (pd_cmp (op_eqD hr.units) vo_eq (pd_name 4) (pd_name 2) (nomark _))))))))), ?_⟩
  rintro ⟨⟨S, ls⟩, o, e⟩ ⟨h, ho, he⟩
  have h : Fit S ls := h
  have ho : o = !fwd (red ls) := ho
  have he : e = !fwd (rounded' ls).1 := he
  refine ⟨(S, ls), rfl, h, ?_⟩
  refine ⟨(S, ls), rfl, h, ?_⟩
  refine iteT' (show PyData.eqv (.bool (!fwd (red ls))) (.bool o) = true by rw [eqB, ho]; simp) ?_
  show Res.fr (.bl true) = Res.fr (.bl (PyData.eqv (.bool (!fwd (rounded' ls).1)) (.bool e)))
  rw [eqB, he]
  simp
theorem d_l_said (T : Tx K mg) : Gd P w K mg base "_law_said" 16 [] ((ct_l_said K).sp K) := by
  obtain ⟨fd, F⟩ := T.d_l_said
  exact gd_of T.g_l_said F.kp (F.bindsN fun _ _ _ _ _ _ us hl => match us, hl with | [_, _, _], _ => rfl) (ok_l_said T F)
def ct_l_flows_due (K : Fr) : Ct := ⟨RA, fun a => [llsD a.1 a.2], fun a => Fit2 a.1 a.2, fun a => .fr (toldD a.1 a.2)⟩
theorem ok_l_flows_due (T : Tx K mg) {fd : FuncData} (F : L2.FunD K a_l_flows_due.name a_l_flows_due.qual a_l_flows_due.params a_l_flows_due.body a_l_flows_due.scope [] [] (ga K "_law_flows_due") fd) : FnOk P w K mg base CX0 3 (ga K "_law_flows_due") fd ["middle"] ((ct_l_flows_due K).sp K) := by
  refine ct_ok F sc_l_flows_due (fun a => rfl) fun cdv A outer s H E hr => ?_
  refine ⟨_, _, (pdss_cons (pds_if (pdt_not (pdt_val (pd_call (d_l_some_below T) (hr.mono (by decide)) (pda_cons (pd_name 0) pda_nil)))) (pdss_one (pds_ret (pd_tup (pda_cons pd_str (pda_cons pd_int pda_nil))))) pdss_nil)
  (pdss_cons (pds_set 1 (pd_call (d_l_unit T) (hr.mono (by decide)) (pda_cons (pd_name 0) pda_nil)) sc_l_flows_due.nd)
  (pdss_cons (pds_set 2 (pd_op op_addA vo_add (pd_op op_mulA vo_mul pd_int (pd_callB1 call_lenA vo_len T.b_len (pd_name 0))) pd_int) sc_l_flows_due.nd)
  (pdss_cons (pds_for PassesOwn.never rfl (pdi_seq (pd_name 0)) (pdg_name 3 sc_l_flows_due.nd)
  (pdss_one (pds_if (pdt_cmp op_gt vo_cmp (pd_op op_mulA vo_mul (pd_name 2) (pd_callB1 call_abs vo_abs T.b_abs (pd_op op_fdivW vo_fdiv (pd_op op_mulA vo_mul (pd_ix ix_seq vo_ix (pd_ix ix_seq vo_ix (pd_name 3) pd_int (fun _ _ => rfl)) pd_int (fun _ _ => rfl)) (pd_name 1)) (pd_ix ix_seq vo_ix (pd_ix ix_seq vo_ix (pd_name 3) pd_int (fun _ _ => rfl)) pd_int (fun _ _ => rfl))))) pd_int (nomark _)) (pdss_one (pds_ret (pd_tup (pda_cons pd_str (pda_cons pd_int pda_nil))))) pdss_nil)))
  (pdss_one (pds_ret (pd_tup (pda_cons pd_str (pda_cons (pd_name 1) (pda_cons (pd_name 2) pda_nil)))))))))), ?_⟩
  rintro ⟨S, ls⟩ h
  have h : Fit2 S ls := h
  obtain ⟨f1, f2, f3, f4⟩ := id h
  refine ⟨(S, ls), rfl, f1, ?_⟩
  have lm : (ls.map (llD S)).length = ls.length := List.length_map _
  have ep : (3 : Int) * ((ls.map (llD S)).length : Nat) + 3 = ((3 * ls.length + 3 : Nat) : Int) := by rw [lm]; omega
  have lu := unitOf_le f1 ls
  have pu := unitOf_pos f1 ls
  have e64 : (2 : Nat) ^ 64 < 2 ^ 100 := by decide
  refine ite2 (fun hc => ?_) (fun hc => ?_)
  · have hc : fwd ls = true := by
      have hc : (!(!fwd ls)) = true := hc
      simpa using hc
    show Res.fr (toldD S ls) = Res.fr (.tup [.str "none", .int 0])
    unfold toldD
    rw [if_pos hc]
  · have hc : ¬ fwd ls = true := by
      have hc : ¬ (!(!fwd ls)) = true := hc
      simpa using hc
    refine ⟨(S, ls), rfl, ⟨f1, f2⟩, ?_⟩
    refine ⟨mulS (by decide) (show (((ls.map (llD S)).length : Nat) : Int).natAbs < 2 ^ 100 by rw [lm]; omega), ?_⟩
    refine forD_ind (f := llD S) (fun r ρ => ∃ s3, ρ = [.fr (llsD S ls), .fr (.int (unitOf S ls)), .fr (.int ((3 * ls.length + 3 : Nat) : Int)), s3] ∧ far S ls = r.any (farL S (unitOf S ls) (3 * ls.length + 3)) ∧ ∀ x ∈ r, x ∈ ls) ⟨.un, ?_, rfl, fun x hx => hx⟩ ?_ ?_
    · show [_, _, Sl.fr (.int ((3 : Int) * ((ls.map (llD S)).length : Nat) + 3)), _] = _
      rw [ep]
    · rintro x r ρ ⟨s3, rfl, e1, e2⟩ nx hn
      have hx := mem_wt (e2 x List.mem_cons_self)
      have hnum := len_num_le f1 x.2
      have hdv : (len S x.2).den ∣ unitOf S ls := by
        have key : ∀ (ys : List Lk) (m : Nat), ((m ∣ ys.foldl (fun u l => Nat.lcm u (len S l.2).den) m) ∧ ∀ y ∈ ys, (len S y.2).den ∣ ys.foldl (fun u l => Nat.lcm u (len S l.2).den) m) := by
          intro ys
          induction ys with
          | nil => intro m; exact ⟨Nat.dvd_refl _, fun y hy => by simp at hy⟩
          | cons y ys ih =>
            intro m
            rw [List.foldl_cons]
            obtain ⟨i1, i2⟩ := ih (Nat.lcm m (len S y.2).den)
            refine ⟨Nat.dvd_trans (Nat.dvd_lcm_left _ _) i1, fun z hz => ?_⟩
            rcases List.mem_cons.mp hz with rfl | hz
            · exact Nat.dvd_trans (Nat.dvd_lcm_right _ _) i1
            · exact i2 z hz
        exact (key ls 1).2 x (e2 x List.mem_cons_self)
      have hdp := (len S x.2).den_pos
      have hdl := Nat.le_of_dvd pu hdv
      obtain ⟨q, hq⟩ := hdv
      have eq1 : unitOf S ls / (len S x.2).den = q := by rw [hq]; exact Nat.mul_div_cancel_left _ hdp
      have eq2 : (len S x.2).num * ((unitOf S ls : Nat) : Int) / ((len S x.2).den : Int) = (len S x.2).num * (q : Int) := by
        rw [hq, Int.natCast_mul, Int.mul_left_comm]
        exact Int.mul_ediv_cancel_left _ (by omega)
      have hql : q ≤ unitOf S ls := by rw [← eq1]; exact Nat.div_le_self _ _
      refine ⟨mulS (show (len S x.2).num.natAbs < 2 ^ 100 by omega) (show ((unitOf S ls : Nat) : Int).natAbs < 2 ^ 100 by omega), ?_⟩
      refine ⟨div_ok (by omega) (Nat.lt_trans (show (((len S x.2).den : Nat) : Int).natAbs < 2 ^ 100 by omega) (Nat.pow_lt_pow_right (by decide) (by decide))), ?_⟩
      have hb : ((len S x.2).num * (q : Int)).natAbs < 2 ^ 128 := by
        rw [Int.natAbs_mul, Int.natAbs_natCast]
        have := Nat.mul_lt_mul'' (show (len S x.2).num.natAbs < 2 ^ 64 by omega) (show q < 2 ^ 64 by omega)
        rw [← Nat.pow_add] at this
        exact this
      have ev : ((3 * ls.length + 3 : Nat) : Int) * (if (len S x.2).num * ((unitOf S ls : Nat) : Int) / ((len S x.2).den : Int) < 0 then -((len S x.2).num * ((unitOf S ls : Nat) : Int) / ((len S x.2).den : Int)) else (len S x.2).num * ((unitOf S ls : Nat) : Int) / ((len S x.2).den : Int)) = (((3 * ls.length + 3) * (len S x.2).num.natAbs * q : Nat) : Int) := by
        rw [abs_nat, eq2, Int.natAbs_mul, Int.natAbs_natCast, ← Int.natCast_mul, Nat.mul_assoc]
      refine ⟨?_, ?_⟩
      · show CMul ((3 * ls.length + 3 : Nat) : Int) (if (len S x.2).num * ((unitOf S ls : Nat) : Int) / ((len S x.2).den : Int) < 0 then -((len S x.2).num * ((unitOf S ls : Nat) : Int) / ((len S x.2).den : Int)) else (len S x.2).num * ((unitOf S ls : Nat) : Int) / ((len S x.2).den : Int)) ∨ CMulW _ _
        rw [abs_nat, eq2]
        exact mulZ 100 200 (by rw [Int.natAbs_natCast]; omega) (by rw [Int.natAbs_natCast]; exact Nat.lt_trans hb (Nat.pow_lt_pow_right (by decide) (by decide)))
      · have ev2 : decide ((3000 : Int) < ((3 * ls.length + 3 : Nat) : Int) * (if (len S x.2).num * ((unitOf S ls : Nat) : Int) / ((len S x.2).den : Int) < 0 then -((len S x.2).num * ((unitOf S ls : Nat) : Int) / ((len S x.2).den : Int)) else (len S x.2).num * ((unitOf S ls : Nat) : Int) / ((len S x.2).den : Int))) = farL S (unitOf S ls) (3 * ls.length + 3) x := by
          rw [ev]
          unfold farL
          rw [eq1]
          exact decide_eq_decide.mpr (by omega)
        refine ite2 (fun hh => ?_) (fun hh => ?_)
        · have hh := ev2.symm.trans hh
          show Res.fr (toldD S ls) = Res.fr (.tup [.str "figures", .int 0])
          unfold toldD
          rw [if_neg hc, if_pos (by rw [e1, List.any_cons, hh, Bool.true_or])]
        · have hh : farL S (unitOf S ls) (3 * ls.length + 3) x = false := by
            rw [← ev2]
            exact Bool.not_eq_true _ ▸ hh
          refine hn _ ⟨_, rfl, ?_, fun y hy => e2 y (List.mem_cons_of_mem _ hy)⟩
          rw [e1, List.any_cons, hh, Bool.false_or]
    · rintro ρ ⟨s3, rfl, e1, e2⟩
      have e1 : far S ls = false := e1
      show Res.fr (toldD S ls) = _
      unfold toldD
      rw [if_neg hc, if_neg (by rw [e1]; decide)]
theorem d_l_flows_due (T : Tx K mg) : Gd P w K mg base "_law_flows_due" 3 [] ((ct_l_flows_due K).sp K) := by
  obtain ⟨fd, F⟩ := T.d_l_flows_due
  exact gd_of T.g_l_flows_due F.kp (F.bindsN fun _ _ _ _ _ _ us hl => match us, hl with | [_], _ => rfl) (ok_l_flows_due T F)
end
end W86
end
section
set_option Elab.async false
set_option linter.all false
set_option maxRecDepth 100000
set_option maxHeartbeats 1000000
set_option exponentiation.threshold 100000
/-! WR: the law's matrices, times. -/
namespace W86
open PySem PySem.Spec PyProof.Rows L2 Evl DL
open He (ga ma)
open He5 (wf)
theorem is_num {x : Rat} {i : Int} {s : Nat} (h : x * (s : Rat) = i) : x.num * (s : Int) = i * (x.den : Int) := by
  have hd : (x.den : Rat) ≠ 0 := by
    intro z
    have : (x.den : Int) = 0 := by exact_mod_cast z
    have := x.den_pos
    omega
  have e : (x.num : Rat) = x * (x.den : Rat) := by
    have := Rat.mkRat_self x
    rw [Rat.mkRat_eq_div] at this
    grind
  have e2 : ((x.num * (s : Int) : Int) : Rat) = ((i * (x.den : Int) : Int) : Rat) := by
    rw [Rat.intCast_mul, Rat.intCast_mul, e, ← h]
    have e3 : ((s : Int) : Rat) = (s : Rat) := Rat.intCast_natCast s
    have e4 : ((x.den : Int) : Rat) = (x.den : Rat) := Rat.intCast_natCast x.den
    rw [e3, e4]
    grind
  exact_mod_cast e2
theorem row2 {x y : Rat} (h : Sz 4000 x) (h' : Sz 4000 y) : ∀ z ∈ [x, y], Sz 4000 z := by
  intro z hz
  simp only [List.mem_cons, List.not_mem_nil, or_false] at hz
  rcases hz with rfl | rfl
  · exact h
  · exact h'
section
variable {P : Program} {w : World} {K : Fr} {mg : Str → Option Value} {base : Heap}
def ct_l_is_matrix (K : Fr) : Ct := ⟨M2 × Z2 × Nat, fun a => [mD a.1, .tup [zmD a.2.1, .int a.2.2]], fun a => Is a.1 (a.2.1, a.2.2) ∧ Ms 3900 a.1 ∧ Zs 4000 (a.2.1, a.2.2), fun _ => .fr (.bl true)⟩
theorem ok_l_is_matrix (T : Tx K mg) {fd : FuncData} (F : L2.FunD K a_l_is_matrix.name a_l_is_matrix.qual a_l_is_matrix.params a_l_is_matrix.body a_l_is_matrix.scope [] [] (ga K "_law_is_matrix") fd) : FnOk P w K mg base CX0 4 (ga K "_law_is_matrix") fd ["told", "flown"] ((ct_l_is_matrix K).sp K) := by
  refine ct_ok F sc_l_is_matrix (fun a => rfl) fun cdv A outer s H E hr => ?_
  refine ⟨_, _, (pdss_cons (pds_if (PDW.pdt (pdw_or (pdt_not (pdt_val (pd_isB k_tup T.b_isinstance T.b_tuple (pd_name 0)))) (pdw_or1 (pdt_cmp (op_neD hr.units) vo_ne (pd_callB1 call_lenA vo_len T.b_len (pd_name 0)) pd_int (nomark _))))) (pdss_one (pds_ret pd_bl)) pdss_nil)
  (pdss_cons (pds_for PassesOwn.never rfl (pdi_range1 T.b_range (pda_cons pd_int pda_nil)) (pdg_name 2 sc_l_is_matrix.nd)
  (pdss_cons (pds_if (PDW.pdt (pdw_or (pdt_not (pdt_val (pd_call (d_l_is_row T) (hr.mono (by decide)) (pda_cons (pd_ix ix_seq vo_ix (pd_name 0) (pd_name 2) (fun _ _ => rfl)) pda_nil)))) (pdw_or1 (pdt_cmp (op_neD hr.units) vo_ne (pd_callB1 call_lenA vo_len T.b_len (pd_ix ix_seq vo_ix (pd_name 0) (pd_name 2) (fun _ _ => rfl))) pd_int (nomark _))))) (pdss_one (pds_ret pd_bl)) pdss_nil)
  (pdss_one (pds_for PassesOwn.never rfl (pdi_range1 T.b_range (pda_cons pd_int pda_nil)) (pdg_name 3 sc_l_is_matrix.nd)
  (pdss_one (pds_if (pdt_cmp (op_neD hr.units) vo_ne (pd_op op_mulA vo_mul (pd_ix ix_seq vo_ix (pd_ix ix_seq vo_ix (pd_ix ix_seq vo_ix (pd_name 0) (pd_name 2) (fun _ _ => rfl)) (pd_name 3) (fun _ _ => rfl)) pd_int (fun _ _ => rfl)) (pd_ix ix_seq vo_ix (pd_name 1) pd_int (fun _ _ => rfl))) (pd_op op_mulA vo_mul (pd_ix ix_seq vo_ix (pd_ix ix_seq vo_ix (pd_ix ix_seq vo_ix (pd_name 1) pd_int (fun _ _ => rfl)) (pd_name 2) (fun _ _ => rfl)) (pd_name 3) (fun _ _ => rfl)) (pd_ix ix_seq vo_ix (pd_ix ix_seq vo_ix (pd_ix ix_seq vo_ix (pd_name 0) (pd_name 2) (fun _ _ => rfl)) (pd_name 3) (fun _ _ => rfl)) pd_int (fun _ _ => rfl))) (nomark _)) (pdss_one (pds_ret pd_bl)) pdss_nil))))))
  (pdss_one (pds_ret pd_bl)))), ?_⟩
  rintro ⟨m, Z, s⟩ ⟨⟨h0, h1, h2, h3, h4⟩, hm, a1, a2, a3, a4, a5⟩
  have up : ∀ {a : Nat}, a ≤ 2 ^ 4000 → a < 2 ^ 4001 := fun h => Nat.lt_of_le_of_lt h (Nat.pow_lt_pow_right (by decide) (by decide))
  have no : ∀ {x : Rat} {i : Int}, x * (s : Rat) = i → ¬ (!(PyData.eqv (.int (x.num * (s : Int))) (.int (i * (x.den : Int))))) = true := fun h q => by
    rw [eqI, is_num h] at q
    simp at q
  have hs : (s : Int).natAbs < 2 ^ 4001 := by rw [Int.natAbs_natCast]; exact up a5
  refine ⟨⟨show (2 : Int) ≤ 100000 by decide, show (-100000 : Int) ≤ 2 by decide⟩, ?_⟩
  refine forD_is (g := dgName false 2) [.int 0, .int 1] [.fr (mD m), .fr (.tup [zmD Z, .int s]), .un, .un] rfl rfl ?_
  refine ⟨[m.1.1, m.1.2], rfl, row2 (hm.1.1.mono (by decide)) (hm.1.2.mono (by decide)), ?_⟩
  refine ⟨⟨show (2 : Int) ≤ 100000 by decide, show (-100000 : Int) ≤ 2 by decide⟩, ?_⟩
  refine forD_is (g := dgName false 3) [.int 0, .int 1] [.fr (mD m), .fr (.tup [zmD Z, .int s]), .fr (.int 0), .un] rfl rfl ?_
  refine ⟨mulZ 3900 4001 hm.1.1.1 hs, mulZ 4001 3900 (up a1) (by rw [Int.natAbs_natCast]; exact hm.1.1.2), ?_⟩
  refine ite2 (fun q => ?_) (fun _ => ?_)
  · exact absurd q (no h1)
  refine forD_is (g := dgName false 3) [.int 1] [.fr (mD m), .fr (.tup [zmD Z, .int s]), .fr (.int 0), .fr (.int 0)] rfl rfl ?_
  refine ⟨mulZ 3900 4001 hm.1.2.1 hs, mulZ 4001 3900 (up a2) (by rw [Int.natAbs_natCast]; exact hm.1.2.2), ?_⟩
  refine ite2 (fun q => ?_) (fun _ => ?_)
  · exact absurd q (no h2)
  refine forD_is (g := dgName false 2) [.int 1] [.fr (mD m), .fr (.tup [zmD Z, .int s]), .fr (.int 0), .fr (.int 1)] rfl rfl ?_
  refine ⟨[m.2.1, m.2.2], rfl, row2 (hm.2.1.mono (by decide)) (hm.2.2.mono (by decide)), ?_⟩
  refine ⟨⟨show (2 : Int) ≤ 100000 by decide, show (-100000 : Int) ≤ 2 by decide⟩, ?_⟩
  refine forD_is (g := dgName false 3) [.int 0, .int 1] [.fr (mD m), .fr (.tup [zmD Z, .int s]), .fr (.int 1), .fr (.int 1)] rfl rfl ?_
  refine ⟨mulZ 3900 4001 hm.2.1.1 hs, mulZ 4001 3900 (up a3) (by rw [Int.natAbs_natCast]; exact hm.2.1.2), ?_⟩
  refine ite2 (fun q => ?_) (fun _ => ?_)
  · exact absurd q (no h3)
  refine forD_is (g := dgName false 3) [.int 1] [.fr (mD m), .fr (.tup [zmD Z, .int s]), .fr (.int 1), .fr (.int 0)] rfl rfl ?_
  refine ⟨mulZ 3900 4001 hm.2.2.1 hs, mulZ 4001 3900 (up a4) (by rw [Int.natAbs_natCast]; exact hm.2.2.2), ?_⟩
  refine ite2 (fun q => ?_) (fun _ => ?_)
  · exact absurd q (no h4)
  exact rfl
theorem d_l_is_matrix (T : Tx K mg) : Gd P w K mg base "_law_is_matrix" 4 [] ((ct_l_is_matrix K).sp K) := by
  obtain ⟨fd, F⟩ := T.d_l_is_matrix
  exact gd_of T.g_l_is_matrix F.kp (F.bindsN fun _ _ _ _ _ _ us hl => match us, hl with | [_, _], _ => rfl) (ok_l_is_matrix T F)
end
end W86
end
section
set_option Elab.async false
set_option linter.all false
set_option maxRecDepth 100000
set_option maxHeartbeats 1000000
set_option exponentiation.threshold 100000
/-! WS: what the law draws: times, links. -/
namespace W86
open PySem PySem.Spec PyProof.Rows L2 Evl DL
open He (ga ma)
open He5 (wf)
theorem pullV_nn (q : Well) {top : Int} (h : 0 < top) : 0 ≤ pullV q top := by
  unfold pullV
  split
  · exact Int.emod_nonneg _ (by omega)
  · exact Int.le_refl _
theorem pullV_lt (q : Well) {top : Int} (h : 0 < top) : pullV q top < top := by
  unfold pullV
  split
  · exact Int.emod_lt_of_pos _ h
  · exact h
theorem pullW_len (q : Well) : (pullW q).2.length = q.2.length := rfl
theorem atI_getD {α : Type} (f : α → D) (xs : List α) (d : α) {i : Int} (h0 : 0 ≤ i) (h : i < xs.length) : atI (xs.map f) i = some (f (xs.getD i.toNat d)) := by
  unfold atI ixN
  rw [if_pos h0, if_pos (by rw [List.length_map]; omega), Option.bind_some, List.getElem?_map, List.getElem?_eq_getElem (by omega)]
  rw [List.getD_eq_getElem?_getD, List.getElem?_eq_getElem (by omega)]
  rfl
def tops : List Int := [1, 2, -1, 3, 1, -2, 0, 5, 1, -1, 2, -3]
def bots : List Int := [1, 2, 1, 3, 1, 4, 1, 2, 6, 1]
def topV (q : Well) : Int := tops.getD (pullV q 12).toNat 0
def botV (q : Well) : Int := bots.getD (pullV q 10).toNat 1
def timeK (q : Well) : Int := topV q * (12 / botV (pullW q))
def timeW (q : Well) : Well := pullW (pullW q)
theorem getD_mem {α : Type} {xs : List α} {d : α} {i : Nat} (h : i < xs.length) : xs.getD i d ∈ xs := by
  rw [List.getD_eq_getElem?_getD, List.getElem?_eq_getElem h]
  exact List.getElem_mem h
theorem topV_mem (q : Well) : topV q ∈ tops := getD_mem (by have := pullV_lt q (top := 12) (by decide); have := pullV_nn q (top := 12) (by decide); show (pullV q 12).toNat < 12; omega)
theorem botV_mem (q : Well) : botV q ∈ bots := getD_mem (by have := pullV_lt q (top := 10) (by decide); have := pullV_nn q (top := 10) (by decide); show (pullV q 10).toNat < 10; omega)
theorem bot_cases {b : Int} (h : b ∈ bots) : b = 1 ∨ b = 2 ∨ b = 3 ∨ b = 4 ∨ b = 6 := by
  simp only [bots, List.mem_cons, List.not_mem_nil, or_false] at h
  omega
theorem top_le {t : Int} (h : t ∈ tops) : t.natAbs ≤ 5 := by
  simp only [tops, List.mem_cons, List.not_mem_nil, or_false] at h
  omega
theorem frac12 (t : Int) {b : Int} (h : b ∈ bots) : Rat.divInt t b = len 12 (t * (12 / b)) := by
  unfold len
  rw [Rat.mkRat_eq_div, Rat.divInt_eq_div, Rat.intCast_mul]
  rcases bot_cases h with rfl | rfl | rfl | rfl | rfl
  · rw [show (12 : Int) / 1 = 12 from rfl]; grind
  · rw [show (12 : Int) / 2 = 6 from rfl]; grind
  · rw [show (12 : Int) / 3 = 4 from rfl]; grind
  · rw [show (12 : Int) / 4 = 3 from rfl]; grind
  · rw [show (12 : Int) / 6 = 2 from rfl]; grind
theorem timeK_le (q : Well) : (timeK q).natAbs ≤ 60 := by
  unfold timeK
  have h1 := top_le (topV_mem q)
  have h2 := bot_cases (botV_mem (pullW q))
  generalize topV q = t at *
  generalize botV (pullW q) = b at *
  rcases h2 with rfl | rfl | rfl | rfl | rfl
  · rw [show (12 : Int) / 1 = 12 from rfl]; omega
  · rw [show (12 : Int) / 2 = 6 from rfl]; omega
  · rw [show (12 : Int) / 3 = 4 from rfl]; omega
  · rw [show (12 : Int) / 4 = 3 from rfl]; omega
  · rw [show (12 : Int) / 6 = 2 from rfl]; omega
def ptOf : Nat → Pt
  | 0 => .a
  | 1 => .b
  | _ => .c
theorem abcIx {i : Int} (h0 : 0 ≤ i) (h : i < 3) : ∃ c, atI ("abc" : Str).cps.toList i = some c ∧ (⟨#[c]⟩ : Str) = (ptOf i.toNat).s := by
  have : i = 0 ∨ i = 1 ∨ i = 2 := by omega
  rcases this with rfl | rfl | rfl
  · exact ⟨_, rfl, by decide +kernel⟩
  · exact ⟨_, rfl, by decide +kernel⟩
  · exact ⟨_, rfl, by decide +kernel⟩
section
variable {P : Program} {w : World} {K : Fr} {mg : Str → Option Value} {base : Heap}
def cw_l_time (K : Fr) : Cw := ⟨Well, fun q => wellO q, fun _ => [], fun q => q.2.length ≤ 100000, fun q => .fr (num (len 12 (timeK q))), fun q => wellO (timeW q)⟩
theorem ok_l_time (T : Tx K mg) {fd : FuncData} (F : L2.FunD K a_l_time.name a_l_time.qual a_l_time.params a_l_time.body a_l_time.scope [] [] (ga K "_law_time") fd) : FnOk P w K mg base CX0 3 (ga K "_law_time") fd ["well"] ((cw_l_time K).sp K) := by
  refine cw_ok F sc_l_time (fun a => rfl) fun cdv A outer s H E hr => ?_
  refine ⟨_, _, (pdss_cons (pds_set 1 (pd_ix ix_seq vo_ix (pd_lst (pda_cons pd_int (pda_cons pd_int (pda_cons (pd_un un_neg vo_neg pd_int) (pda_cons pd_int (pda_cons pd_int (pda_cons (pd_un un_neg vo_neg pd_int) (pda_cons pd_int (pda_cons pd_int (pda_cons pd_int (pda_cons (pd_un un_neg vo_neg pd_int) (pda_cons pd_int (pda_cons (pd_un un_neg vo_neg pd_int) pda_nil))))))))))))) (pd_callW 0 (d_l_pull T) (hr.mono (by decide)) rfl (.inl rfl) (pda_cons pd_int pda_nil)) (fun _ _ => rfl)) sc_l_time.nd)
  (pdss_one (pds_ret (pd_call (d_l_frac T) (hr.mono (by decide)) (pda_cons (pd_name 1) (pda_cons (pd_ix ix_seq vo_ix (pd_lst (pda_cons pd_int (pda_cons pd_int (pda_cons pd_int (pda_cons pd_int (pda_cons pd_int (pda_cons pd_int (pda_cons pd_int (pda_cons pd_int (pda_cons pd_int (pda_cons pd_int pda_nil))))))))))) (pd_callW 0 (d_l_pull T) (hr.mono (by decide)) rfl (.inl rfl) (pda_cons pd_int pda_nil)) (fun _ _ => rfl)) pda_nil)))))), ?_⟩
  rintro (q : Well) hq
  have hq : q.2.length ≤ 100000 := hq
  refine ⟨⟨_, rfl⟩, (q, 12), rfl, rfl, ⟨show (0 : Int) < 12 by decide, hq⟩, ?_⟩
  have b1 := topV_mem q
  have b2 := botV_mem (pullW q)
  refine ob_iff.mpr ⟨_, rfl, ob_iff.mpr ⟨_, rfl, ob_iff.mpr ⟨.int (topV q), atI_getD D.int tops 0 (pullV_nn q (show (0 : Int) < 12 by decide)) (pullV_lt q (top := 12) (by decide)), ?_⟩⟩⟩
  refine ⟨⟨_, rfl⟩, (pullW q, 10), rfl, rfl, ⟨show (0 : Int) < 10 by decide, hq⟩, ?_⟩
  refine ob_iff.mpr ⟨_, rfl, ob_iff.mpr ⟨_, rfl, ob_iff.mpr ⟨.int (botV (pullW q)), atI_getD D.int bots 1 (pullV_nn (pullW q) (show (0 : Int) < 10 by decide)) (pullV_lt (pullW q) (top := 10) (by decide)), ?_⟩⟩⟩
  have e0 := bot_cases b2
  have e1 := top_le b1
  have e9 : (1000 : Nat) < 2 ^ 4000 := Nat.lt_trans (show 1000 < 2 ^ 10 by decide) (Nat.pow_lt_pow_right (by decide) (by decide))
  refine ⟨(topV q, botV (pullW q)), rfl, ⟨show 0 < botV (pullW q) by omega, show (topV q).natAbs < 2 ^ 4000 by omega, show (botV (pullW q)).natAbs < 2 ^ 4000 by omega⟩, ?_⟩
  refine ⟨?_, rfl⟩
  show Res.fr (num (len 12 (timeK q))) = Res.fr (num (Rat.divInt (topV q) (botV (pullW q))))
  rw [frac12 _ b2]
  rfl
theorem d_l_time (T : Tx K mg) : Gd P w K mg base "_law_time" 3 [] ((cw_l_time K).sp K) := by
  obtain ⟨fd, F⟩ := T.d_l_time
  exact gd_of T.g_l_time F.kp (F.bindsN fun _ _ _ _ _ _ us hl => match us, hl with | [_], _ => rfl) (ok_l_time T F)
/-- the length that a link of a kind has -/
def fixK (kind k : Int) : Int := if kind = 1 then k else if k = 0 then 12 else (k.natAbs : Int)
def drawn1 (q : Well) (letters kind : Int) : Lk × Well := ((ptOf (pullV (timeW q) letters).toNat, fixK kind (timeK q)), pullW (timeW q))
def drawnN (letters kind : Int) : Nat → Well → List Lk × Well
  | 0, q => ([], q)
  | n + 1, q => ((drawn1 q letters kind).1 :: (drawnN letters kind n (drawn1 q letters kind).2).1, (drawnN letters kind n (drawn1 q letters kind).2).2)
def drawnV (q : Well) (letters most kind : Int) : List Lk × Well :=
  if kind = 2 then
    let r := drawnN letters kind (pullV q (most + 1)).toNat (pullW q)
    let sp := (pullV r.2 (r.1.length + 1)).toNat
    (r.1.take sp ++ [(ptOf (pullV (pullW r.2) letters).toNat, -3)] ++ r.1.drop sp, pullW (pullW r.2))
  else drawnN letters kind (pullV q (most + 1)).toNat (pullW q)
theorem num_fix (k : Int) : D.tup [.int (if (if (len 12 k).num < 0 then -(len 12 k).num else (len 12 k).num) > 1 then (if (len 12 k).num < 0 then -(len 12 k).num else (len 12 k).num) else 1), .int ((len 12 k).den : Nat)] = num (len 12 (if k = 0 then 12 else (k.natAbs : Int))) := by
  rw [abs_nat]
  by_cases h : k = 0
  · subst h
    have e1 : len 12 12 = 1 := by decide +kernel
    rw [if_pos rfl, len_zero, e1]
    rfl
  · rw [if_neg h]
    have hn : (len 12 k).num ≠ 0 := fun z => h ((len_num (by decide) k).mp z)
    have sg := len_sign (S := 12) (by decide) k
    have e2 : (if ((len 12 k).num.natAbs : Int) > 1 then ((len 12 k).num.natAbs : Int) else 1) = (len 12 k).num.natAbs := by split <;> omega
    rw [e2]
    unfold num
    by_cases hk : k < 0
    · rw [show (k.natAbs : Int) = -k by omega, ← len_neg, Rat.neg_num, Rat.neg_den]
      have : (len 12 k).num < 0 := by
        rw [Int.sign_eq_neg_one_of_neg hk] at sg
        exact Int.sign_eq_neg_one_iff_neg.mp sg
      rw [show (((len 12 k).num.natAbs : Nat) : Int) = -(len 12 k).num by omega]
    · rw [show (k.natAbs : Int) = k by omega]
      have : 0 < (len 12 k).num := by
        rw [Int.sign_eq_one_of_pos (by omega : 0 < k)] at sg
        exact Int.sign_eq_one_iff_pos.mp sg
      rw [show (((len 12 k).num.natAbs : Nat) : Int) = (len 12 k).num by omega]
theorem timeW_len (q : Well) : (timeW q).2.length = q.2.length := rfl
theorem drawnN_len (letters kind : Int) : ∀ (n : Nat) (q : Well), (drawnN letters kind n q).1.length = n ∧ (drawnN letters kind n q).2.2.length = q.2.length
  | 0, q => ⟨rfl, rfl⟩
  | n + 1, q => by
    obtain ⟨h1, h2⟩ := drawnN_len letters kind n (drawn1 q letters kind).2
    exact ⟨by show (_ :: _).length = _; rw [List.length_cons, h1], h2⟩
end
end W86
end
section
set_option Elab.async false
set_option linter.all false
set_option maxRecDepth 100000
set_option maxHeartbeats 1000000
set_option exponentiation.threshold 100000
/-! WT: drawn rows, split rows. -/
namespace W86
open PySem PySem.Spec PyProof.Rows L2 Evl DL
open He (ga ma)
open He5 (wf)
section
variable {P : Program} {w : World} {K : Fr} {mg : Str → Option Value} {base : Heap}
abbrev lsO (ls : List Lk) : Ow := .lst (ls.map (llD 12))
theorem lsO_snoc (a : List Lk) (x : Lk) : lsO (a ++ [x]) = .lst (a.map (llD 12) ++ [llD 12 x]) := by
  show Ow.lst ((a ++ [x]).map (llD 12)) = _
  rw [List.map_append]
  rfl
theorem n34 : num (len 12 (-3)) = .tup [.int (-1), .int 4] := by
  have h1 : (len 12 (-3)).num = -1 := by decide +kernel
  have h2 : (len 12 (-3)).den = 4 := by decide +kernel
  show D.tup [.int (len 12 (-3)).num, .int ((len 12 (-3)).den : Nat)] = _
  rw [h1, h2]
  rfl
def cw_l_drawn (K : Fr) : Cw := ⟨Well × Int × Int × Int, fun a => wellO a.1, fun a => [.int a.2.1, .int a.2.2.1, .int a.2.2.2], fun a => a.1.2.length ≤ 10000 ∧ (0 < a.2.1 ∧ a.2.1 ≤ 3) ∧ (0 ≤ a.2.2.1 ∧ a.2.2.1 ≤ 20),
  fun a => .ow (lsO (drawnV a.1 a.2.1 a.2.2.1 a.2.2.2).1), fun a => wellO (drawnV a.1 a.2.1 a.2.2.1 a.2.2.2).2⟩
theorem ok_l_drawn (T : Tx K mg) {fd : FuncData} (F : L2.FunD K a_l_drawn.name a_l_drawn.qual a_l_drawn.params a_l_drawn.body a_l_drawn.scope [] [] (ga K "_law_drawn") fd) : FnOk P w K mg base CX0 4 (ga K "_law_drawn") fd ["well", "letters", "most", "kind"] ((cw_l_drawn K).sp K) := by
  refine cw_ok F sc_l_drawn (fun a => rfl) fun cdv A outer s H E hr => ?_
  refine ⟨_, _, (pdss_cons (pds_set 4 (pd_lst pda_nil) sc_l_drawn.nd)
  (pdss_cons (pds_for PassesOwn.never rfl (pdi_range1 T.b_range (pda_cons (pd_callW 0 (d_l_pull T) (hr.mono (by decide)) rfl (.inl rfl) (pda_cons (pd_op op_addA vo_add (pd_name 2) pd_int) pda_nil)) pda_nil)) (pdg_name 5 sc_l_drawn.nd)
  (pdss_cons (pds_set 6 (pd_callW 0 (d_l_time T) (hr.mono (by decide)) rfl (.inl rfl) pda_nil) sc_l_drawn.nd)
  (pdss_cons (pds_if (pdt_cmp (op_neD hr.units) vo_ne (pd_name 3) pd_int (nomark _)) (pdss_one (pds_set 6 (pd_tup (pda_cons (pd_callB (call_max2 rfl) vo_max2 T.b_max (pda_cons pd_int (pda_cons (pd_callB1 call_abs vo_abs T.b_abs (pd_ix ix_seq vo_ix (pd_name 6) pd_int (fun _ _ => rfl))) pda_nil))) (pda_cons (pd_ix ix_seq vo_ix (pd_name 6) pd_int (fun _ _ => rfl)) pda_nil))) sc_l_drawn.nd)) pdss_nil)
  (pdss_one (pds_expr (pd_app 4 (pd_call (d_l_true T) (hr.mono (by decide)) (pda_cons (pd_ix ix_seq vo_ix pd_str (pd_callW 0 (d_l_pull T) (hr.mono (by decide)) rfl (.inl rfl) (pda_cons (pd_name 1) pda_nil)) (fun _ _ => rfl)) (pda_cons (pd_name 6) pda_nil)))))))))
  (pdss_cons (pds_if (pdt_cmp (op_eqD hr.units) vo_eq (pd_name 3) pd_int (nomark _)) (pdss_cons (pds_set 7 (pd_callW 0 (d_l_pull T) (hr.mono (by decide)) rfl (.inl rfl) (pda_cons (pd_op op_addA vo_add (pd_callB1 call_lenA vo_len T.b_len (pd_name 4)) pd_int) pda_nil)) sc_l_drawn.nd)
  (pdss_one (pds_set 4 (pd_op op_addA vo_add (pd_op op_addA vo_add (pd_slice sl_any vo_sl (pd_name 4) pdo_none (pdo_some (pd_name 7))) (pd_lst (pda_cons (pd_call (d_l_true T) (hr.mono (by decide)) (pda_cons (pd_ix ix_seq vo_ix pd_str (pd_callW 0 (d_l_pull T) (hr.mono (by decide)) rfl (.inl rfl) (pda_cons (pd_name 1) pda_nil)) (fun _ _ => rfl)) (pda_cons (pd_tup (pda_cons (pd_un un_neg vo_neg pd_int) (pda_cons pd_int pda_nil))) pda_nil))) pda_nil))) (pd_slice sl_any vo_sl (pd_name 4) (pdo_some (pd_name 7)) pdo_none)) sc_l_drawn.nd))) pdss_nil)
  (pdss_one (pds_ret (pd_name 4)))))), ?_⟩
  rintro ⟨q, l, m, k⟩ ⟨h0, ⟨h1, h2⟩, h3, h4⟩
  have h0 : q.2.length ≤ 10000 := h0
  have h1 : 0 < l := h1
  have h2 : l ≤ 3 := h2
  have h3 : 0 ≤ m := h3
  have h4 : m ≤ 20 := h4
  have hp : 0 ≤ pullV q (m + 1) ∧ pullV q (m + 1) < m + 1 := ⟨pullV_nn q (by omega), pullV_lt q (by omega)⟩
  refine ⟨⟨_, rfl⟩, (q, m + 1), rfl, rfl, ⟨show 0 < m + 1 by omega, show q.2.length ≤ 100000 by omega⟩, ?_⟩
  refine ⟨show pullV q (m + 1) ≤ 100000 ∧ -100000 ≤ pullV q (m + 1) by omega, ?_⟩
  generalize hn : (pullV q (m + 1)).toNat = n
  refine forD_is (rng 0 n) [.ow (wellO (pullW q)), .fr (.int l), .fr (.int m), .fr (.int k), .ow (lsO []), .un, .un, .un] rfl (by rw [← hn]) ?_
  refine forD_rng (fun i ρ => ∃ (acc : List Lk) (qi : Well) (s5 s6 s7 : Sl), ρ = [.ow (wellO qi), .fr (.int l), .fr (.int m), .fr (.int k), .ow (lsO acc), s5, s6, s7] ∧ (acc ++ (drawnN l k (n - i) qi).1, (drawnN l k (n - i) qi).2) = drawnN l k n (pullW q) ∧ qi.2.length ≤ 10000 ∧ acc.length ≤ i) ⟨[], pullW q, .un, .un, .un, rfl, rfl, h0, Nat.le_refl _⟩ ?_ ?_
  · rintro i ρ hi ⟨acc, qi, s5, s6, s7, rfl, e1, e2, e3⟩ nx hnx
    have hi : i < n := hi
    have hl : 0 ≤ pullV (timeW qi) l ∧ pullV (timeW qi) l < l := ⟨pullV_nn _ h1, pullV_lt _ h1⟩
    obtain ⟨c, hc1, hc2⟩ := abcIx hl.1 (show pullV (timeW qi) l < 3 by omega)
    have en : n - i = (n - (i + 1)) + 1 := by omega
    have e1' : ((acc ++ [(drawn1 qi l k).1]) ++ (drawnN l k (n - (i + 1)) (drawn1 qi l k).2).1, (drawnN l k (n - (i + 1)) (drawn1 qi l k).2).2) = drawnN l k n (pullW q) := by
      rw [← e1, en]
      simp [drawnN]
    have h0' : (drawn1 qi l k).2.2.length ≤ 10000 := e2
    refine ⟨⟨_, rfl⟩, qi, rfl, rfl, show qi.2.length ≤ 100000 by omega, ?_⟩
    have eqk : PyData.eqv (.int k) (.int 1) = decide (k = 1) := eqI
    refine ite2 (fun hk => ?_) (fun hk => ?_)
    · have hk : k ≠ 1 := fun z => by
        have hk : (!(PyData.eqv (.int k) (.int 1))) = true := hk
        rw [eqk, decide_eq_true z] at hk
        cases hk
      have ht : D.tup [.int (if (if (len 12 (timeK qi)).num < 0 then -(len 12 (timeK qi)).num else (len 12 (timeK qi)).num) > 1 then (if (len 12 (timeK qi)).num < 0 then -(len 12 (timeK qi)).num else (len 12 (timeK qi)).num) else 1), .int ((len 12 (timeK qi)).den : Nat)] = num (len 12 (fixK k (timeK qi))) := by
        rw [num_fix]
        unfold fixK
        rw [if_neg hk]
      refine ⟨⟨_, rfl⟩, (timeW qi, l), rfl, rfl, ⟨h1, show (timeW qi).2.length ≤ 100000 by rw [timeW_len]; omega⟩, ?_⟩
      refine ob_iff.mpr ⟨_, rfl, ob_iff.mpr ⟨_, rfl, ⟨by decide, ob_iff.mpr ⟨c, hc1, ?_⟩⟩⟩⟩
      refine ⟨((ptOf (pullV (timeW qi) l).toNat), len 12 (fixK k (timeK qi))), ?_, trivial, show (acc.map (llD 12)).length < 100000 by rw [List.length_map]; omega, ?_⟩
      · show [D.str ⟨#[c]⟩, D.tup [.int (if (if (len 12 (timeK qi)).num < 0 then -(len 12 (timeK qi)).num else (len 12 (timeK qi)).num) > 1 then (if (len 12 (timeK qi)).num < 0 then -(len 12 (timeK qi)).num else (len 12 (timeK qi)).num) else 1), .int ((len 12 (timeK qi)).den : Nat)]] = [.str (ptOf (pullV (timeW qi) l).toNat).s, num (len 12 (fixK k (timeK qi)))]
        rw [hc2, ht]
      · refine hnx _ ⟨acc ++ [(drawn1 qi l k).1], (drawn1 qi l k).2, .fr (.int (0 + (i : Int))), .fr (num (len 12 (fixK k (timeK qi)))), s7, ?_, e1', h0', by rw [List.length_append, List.length_singleton]; omega⟩
        show [_, _, _, _, Sl.ow (.lst (acc.map (llD 12) ++ [.tup [.str (ptOf (pullV (timeW qi) l).toNat).s, num (len 12 (fixK k (timeK qi))), P1, P1]])), _, Sl.fr (D.tup [.int (if (if (len 12 (timeK qi)).num < 0 then -(len 12 (timeK qi)).num else (len 12 (timeK qi)).num) > 1 then (if (len 12 (timeK qi)).num < 0 then -(len 12 (timeK qi)).num else (len 12 (timeK qi)).num) else 1), .int ((len 12 (timeK qi)).den : Nat)]), _] = _
        rw [ht, lsO_snoc]
        rfl
    · have hk : k = 1 := by
        have hk : ¬ (!(PyData.eqv (.int k) (.int 1))) = true := hk
        rw [eqk] at hk
        simpa using hk
      have ht : num (len 12 (timeK qi)) = num (len 12 (fixK k (timeK qi))) := by
        unfold fixK
        rw [if_pos hk]
      refine ⟨⟨_, rfl⟩, (timeW qi, l), rfl, rfl, ⟨h1, show (timeW qi).2.length ≤ 100000 by rw [timeW_len]; omega⟩, ?_⟩
      refine ob_iff.mpr ⟨_, rfl, ob_iff.mpr ⟨_, rfl, ⟨by decide, ob_iff.mpr ⟨c, hc1, ?_⟩⟩⟩⟩
      refine ⟨((ptOf (pullV (timeW qi) l).toNat), len 12 (fixK k (timeK qi))), ?_, trivial, show (acc.map (llD 12)).length < 100000 by rw [List.length_map]; omega, ?_⟩
      · show [D.str ⟨#[c]⟩, num (len 12 (timeK qi))] = [.str (ptOf (pullV (timeW qi) l).toNat).s, num (len 12 (fixK k (timeK qi)))]
        rw [hc2, ht]
      · refine hnx _ ⟨acc ++ [(drawn1 qi l k).1], (drawn1 qi l k).2, .fr (.int (0 + (i : Int))), .fr (num (len 12 (fixK k (timeK qi)))), s7, ?_, e1', h0', by rw [List.length_append, List.length_singleton]; omega⟩
        show [_, _, _, _, Sl.ow (.lst (acc.map (llD 12) ++ [.tup [.str (ptOf (pullV (timeW qi) l).toNat).s, num (len 12 (fixK k (timeK qi))), P1, P1]])), _, Sl.fr (num (len 12 (timeK qi))), _] = _
        rw [ht, lsO_snoc]
        rfl
  · rintro ρ ⟨acc, qi, s5, s6, s7, rfl, e1, e2, e3⟩
    have e1 : (acc, qi) = drawnN l k n (pullW q) := by
      rw [← e1, Nat.sub_self]
      simp [drawnN]
    have eqk : PyData.eqv (.int k) (.int 2) = decide (k = 2) := eqI
    have lm : (acc.map (llD 12)).length = acc.length := List.length_map _
    have ln : acc.length ≤ 20 := by
      have := drawnN_len l k n (pullW q)
      rw [← e1] at this
      have : acc.length = n := this.1
      omega
    refine ite2 (fun hk => ?_) (fun hk => ?_)
    · have hk : k = 2 := of_decide_eq_true (eqk.symm.trans hk)
      have hsp : 0 ≤ pullV qi (((acc.map (llD 12)).length : Nat) + 1) ∧ pullV qi (((acc.map (llD 12)).length : Nat) + 1) < ((acc.map (llD 12)).length : Nat) + 1 := ⟨pullV_nn _ (by omega), pullV_lt _ (by omega)⟩
      rw [lm] at hsp
      have hl : 0 ≤ pullV (pullW qi) l ∧ pullV (pullW qi) l < l := ⟨pullV_nn _ h1, pullV_lt _ h1⟩
      obtain ⟨c, hc1, hc2⟩ := abcIx hl.1 (show pullV (pullW qi) l < 3 by omega)
      refine ⟨⟨_, rfl⟩, (qi, ((acc.map (llD 12)).length : Nat) + 1), rfl, rfl, ⟨show (0 : Int) < ((acc.map (llD 12)).length : Nat) + 1 by omega, show qi.2.length ≤ 100000 by omega⟩, ?_⟩
      obtain ⟨sp, hspn⟩ : ∃ sp : Nat, pullV qi (((acc.map (llD 12)).length : Nat) + 1) = (sp : Int) := ⟨_, (Int.toNat_of_nonneg (pullV_nn _ (by omega))).symm⟩
      have hsl : sp ≤ (acc.map (llD 12)).length := by
        have hspn' := hspn
        rw [lm] at hspn' ⊢
        omega
      have ct : DL.cutD (acc.map (llD 12)) none (some (pullV qi (((acc.map (llD 12)).length : Nat) + 1))) = (acc.take sp).map (llD 12) := by rw [hspn, cutTo hsl, List.map_take]
      have cf : DL.cutD (acc.map (llD 12)) (some (pullV qi (((acc.map (llD 12)).length : Nat) + 1))) none = (acc.drop sp).map (llD 12) := by rw [hspn, cutFrom hsl, List.map_drop]
      have hd : drawnV q l m k = (acc.take sp ++ [(ptOf (pullV (pullW qi) l).toNat, -3)] ++ acc.drop sp, pullW (pullW qi)) := by
        unfold drawnV
        rw [if_pos hk, hn, ← e1]
        rw [lm] at hspn
        simp only
        rw [hspn, Int.toNat_natCast]
      refine ⟨⟨_, rfl⟩, (pullW qi, l), rfl, rfl, ⟨h1, show qi.2.length ≤ 100000 by omega⟩, ?_⟩
      refine ob_iff.mpr ⟨_, rfl, ob_iff.mpr ⟨_, rfl, ⟨by decide, ob_iff.mpr ⟨c, hc1, ?_⟩⟩⟩⟩
      refine ⟨((ptOf (pullV (pullW qi) l).toNat), len 12 (-3)), ?_, trivial, ?_⟩
      · show [D.str ⟨#[c]⟩, D.tup [.int (-1), .int 4]] = [.str (ptOf (pullV (pullW qi) l).toNat).s, num (len 12 (-3))]
        rw [hc2, n34]
      · have hl1 : (DL.cutD (acc.map (llD 12)) none (some (pullV qi (((acc.map (llD 12)).length : Nat) + 1)))).length ≤ 20 := by
          rw [ct, List.length_map, List.length_take]
          omega
        have hl2 : (DL.cutD (acc.map (llD 12)) (some (pullV qi (((acc.map (llD 12)).length : Nat) + 1))) none).length ≤ 20 := by
          rw [cf, List.length_map, List.length_drop]
          omega
        refine ⟨show (DL.cutD (acc.map (llD 12)) none (some (pullV qi (((acc.map (llD 12)).length : Nat) + 1)))).length + 1 ≤ 100000 by omega, ?_⟩
        refine ⟨show (DL.cutD (acc.map (llD 12)) none (some (pullV qi (((acc.map (llD 12)).length : Nat) + 1))) ++ [D.tup [.str (ptOf (pullV (pullW qi) l).toNat).s, num (len 12 (-3)), P1, P1]]).length + (DL.cutD (acc.map (llD 12)) (some (pullV qi (((acc.map (llD 12)).length : Nat) + 1))) none).length ≤ 100000 by rw [List.length_append, List.length_singleton]; omega, ?_⟩
        refine ⟨?_, ?_⟩
        · show Res.ow (lsO (drawnV q l m k).1) = Res.ow (.lst (DL.cutD (acc.map (llD 12)) none (some (pullV qi (((acc.map (llD 12)).length : Nat) + 1))) ++ [D.tup [.str (ptOf (pullV (pullW qi) l).toNat).s, num (len 12 (-3)), P1, P1]] ++ DL.cutD (acc.map (llD 12)) (some (pullV qi (((acc.map (llD 12)).length : Nat) + 1))) none))
          rw [ct, cf, hd]
          show Res.ow (.lst ((acc.take sp ++ [(ptOf (pullV (pullW qi) l).toNat, -3)] ++ acc.drop sp).map (llD 12))) = _
          rw [List.map_append, List.map_append]
          rfl
        · show some (Sl.ow (wellO (pullW (pullW qi)))) = some (Sl.ow (wellO (drawnV q l m k).2))
          rw [hd]
    · have hk : k ≠ 2 := fun z => hk (eqk.trans (decide_eq_true z))
      have ed : drawnV q l m k = (acc, qi) := by
        unfold drawnV
        rw [if_neg hk, hn, e1]
      refine ⟨?_, ?_⟩
      · show Res.ow (lsO (drawnV q l m k).1) = Res.ow (lsO acc)
        rw [ed]
      · show [Sl.ow (wellO qi), _, _, _, _, _, _, _][0]? = some (Sl.ow (wellO (drawnV q l m k).2))
        rw [ed]
        rfl
theorem d_l_drawn (T : Tx K mg) : Gd P w K mg base "_law_drawn" 4 [] ((cw_l_drawn K).sp K) := by
  obtain ⟨fd, F⟩ := T.d_l_drawn
  exact gd_of T.g_l_drawn F.kp (F.bindsN fun _ _ _ _ _ _ us hl => match us, hl with | [_, _, _, _], _ => rfl) (ok_l_drawn T F)
end
end W86
end
section
set_option Elab.async false
set_option linter.all false
set_option maxRecDepth 100000
set_option maxHeartbeats 1000000
set_option exponentiation.threshold 100000
/-! WU: split rows. -/
namespace W86
open PySem PySem.Spec PyProof.Rows L2 Evl DL
open He (ga ma)
open He5 (wf)
def splitP (l : Int) (place spot : Nat) (q : Well) : List Lk × Well := if spot = place then ([((ptOf (pullV q l).toNat), timeK (pullW q)), ((ptOf (pullV q l).toNat), -timeK (pullW q))], timeW (pullW q)) else ([], q)
def splitF (l : Int) (place : Nat) : Nat → Well → List Lk → List Lk × Well
  | spot, q, [] => splitP l place spot q
  | spot, q, x :: r => ((splitP l place spot q).1 ++ [(x.1, timeK (splitP l place spot q).2), (x.1, x.2 + -timeK (splitP l place spot q).2)] ++ (splitF l place (spot + 1) (timeW (splitP l place spot q).2) r).1, (splitF l place (spot + 1) (timeW (splitP l place spot q).2) r).2)
def splitV (q : Well) (ls : List Lk) (l : Int) : List Lk × Well := splitF l (pullV q (ls.length + 1)).toNat 0 (pullW q) ls
theorem szk_small {k : Int} (h : k.natAbs < 2000) : Szk 12 k := ⟨by decide, Nat.lt_trans (show 12 < 2 ^ 4 by decide) (Nat.pow_lt_pow_right (by decide) (by decide)), Nat.lt_trans (show k.natAbs < 2 ^ 11 from Nat.lt_trans h (by decide)) (Nat.pow_lt_pow_right (by decide) (by decide))⟩
theorem snoc2 {S : Nat} (a : List Lk) (x y : Lk) : (a ++ [x, y]).map (llD S) = (a.map (llD S) ++ [llD S x]) ++ [llD S y] := by
  rw [List.map_append, List.append_assoc]
  rfl
theorem nx_at {D : DEnds} {ρ : Ro} (ρ' : Ro) (e : ρ = ρ') (h : D.nx ρ') : D.nx ρ := by
  subst e
  exact h
section
variable {P : Program} {w : World} {K : Fr} {mg : Str → Option Value} {base : Heap}
def cw_l_split (K : Fr) : Cw := ⟨Well × List Lk × Int, fun a => wellO a.1, fun a => [llsD 12 a.2.1, .int a.2.2], fun a => a.1.2.length ≤ 10000 ∧ (0 < a.2.2 ∧ a.2.2 ≤ 3) ∧ a.2.1.length ≤ 20 ∧ ∀ x ∈ a.2.1, x.2.natAbs < 1000,
  fun a => .ow (lsO (splitV a.1 a.2.1 a.2.2).1), fun a => wellO (splitV a.1 a.2.1 a.2.2).2⟩
theorem ok_l_split (T : Tx K mg) {fd : FuncData} (F : L2.FunD K a_l_split.name a_l_split.qual a_l_split.params a_l_split.body a_l_split.scope [] [] (ga K "_law_split") fd) : FnOk P w K mg base CX0 4 (ga K "_law_split") fd ["well", "links", "letters"] ((cw_l_split K).sp K) := by
  refine cw_ok F sc_l_split (fun a => rfl) fun cdv A outer s H E hr => ?_
  refine ⟨_, _, (pdss_cons (pds_set 3 (pd_lst pda_nil) sc_l_split.nd)
  (pdss_cons (pds_set 4 (pd_callW 0 (d_l_pull T) (hr.mono (by decide)) rfl (.inl rfl) (pda_cons (pd_op op_addA vo_add (pd_callB1 call_lenA vo_len T.b_len (pd_name 1)) pd_int) pda_nil)) sc_l_split.nd)
  (pdss_cons (pds_for PassesOwn.never rfl (pdi_range1 T.b_range (pda_cons (pd_op op_addA vo_add (pd_callB1 call_lenA vo_len T.b_len (pd_name 1)) pd_int) pda_nil)) (pdg_name 5 sc_l_split.nd)
  (pdss_cons (pds_if (pdt_cmp (op_eqD hr.units) vo_eq (pd_name 5) (pd_name 4) (nomark _)) (pdss_cons (pds_set 6 (pd_lst (pda_cons (pd_call (d_l_true T) (hr.mono (by decide)) (pda_cons (pd_ix ix_seq vo_ix pd_str (pd_callW 0 (d_l_pull T) (hr.mono (by decide)) rfl (.inl rfl) (pda_cons (pd_name 2) pda_nil)) (fun _ _ => rfl)) (pda_cons (pd_callW 0 (d_l_time T) (hr.mono (by decide)) rfl (.inl rfl) pda_nil) pda_nil))) pda_nil)) sc_l_split.nd)
  (pdss_one (pds_set 3 (pd_op op_addA vo_add (pd_op op_addA vo_add (pd_name 3) (pd_name 6)) (pd_call (d_l_undone T) (hr.mono (by decide)) (pda_cons (pd_name 6) pda_nil))) sc_l_split.nd))) pdss_nil)
  (pdss_one (pds_if (pdt_cmp op_lt vo_cmp (pd_name 5) (pd_callB1 call_lenA vo_len T.b_len (pd_name 1)) (nomark _)) (pdss_cons (pds_set 7 (pd_callW 0 (d_l_time T) (hr.mono (by decide)) rfl (.inl rfl) pda_nil) sc_l_split.nd)
  (pdss_cons (pds_expr (pd_app 3 (pd_call (d_l_true T) (hr.mono (by decide)) (pda_cons (pd_ix ix_seq vo_ix (pd_ix ix_seq vo_ix (pd_name 1) (pd_name 5) (fun _ _ => rfl)) pd_int (fun _ _ => rfl)) (pda_cons (pd_name 7) pda_nil)))))
  (pdss_one (pds_expr (pd_app 3 (pd_call (d_l_true T) (hr.mono (by decide)) (pda_cons (pd_ix ix_seq vo_ix (pd_ix ix_seq vo_ix (pd_name 1) (pd_name 5) (fun _ _ => rfl)) pd_int (fun _ _ => rfl)) (pda_cons (pd_call (d_l_add T) (hr.mono (by decide)) (pda_cons (pd_ix ix_seq vo_ix (pd_ix ix_seq vo_ix (pd_name 1) (pd_name 5) (fun _ _ => rfl)) pd_int (fun _ _ => rfl)) (pda_cons (pd_call (d_l_neg T) (hr.mono (by decide)) (pda_cons (pd_name 7) pda_nil)) pda_nil))) pda_nil)))))))) pdss_nil))))
  (pdss_one (pds_ret (pd_name 3)))))), ?_⟩
  rintro ⟨q, ls, l⟩ ⟨h0, ⟨h1, h2⟩, h3, h4⟩
  have h0 : q.2.length ≤ 10000 := h0
  have h1 : 0 < l := h1
  have h2 : l ≤ 3 := h2
  have h3 : ls.length ≤ 20 := h3
  have h4 : ∀ x ∈ ls, x.2.natAbs < 1000 := h4
  have lm : (ls.map (llD 12)).length = ls.length := List.length_map _
  obtain ⟨pl, hpl⟩ : ∃ pl : Nat, pullV q (ls.length + 1) = (pl : Int) := ⟨_, (Int.toNat_of_nonneg (pullV_nn _ (by omega))).symm⟩
  have eV : splitV q ls l = splitF l pl 0 (pullW q) ls := by unfold splitV; rw [hpl, Int.toNat_natCast]
  refine ⟨⟨_, rfl⟩, (q, ((ls.map (llD 12)).length : Nat) + 1), rfl, rfl, ⟨show (0 : Int) < ((ls.map (llD 12)).length : Nat) + 1 by omega, show q.2.length ≤ 100000 by omega⟩, ?_⟩
  refine ⟨show ((ls.map (llD 12)).length : Int) + 1 ≤ 100000 ∧ (-100000 : Int) ≤ ((ls.map (llD 12)).length : Nat) + 1 by rw [lm]; omega, ?_⟩
  refine forD_is (rng 0 (ls.length + 1)) [.ow (wellO (pullW q)), .fr (llsD 12 ls), .fr (.int l), .ow (lsO []), .fr (.int pl), .un, .un, .un] ?_ ?_ ?_
  · show [_, _, _, _, Sl.fr (.int (pullV q (((ls.map (llD 12)).length : Nat) + 1))), _, _, _] = _
    rw [lm, hpl]
    rfl
  · show rng 0 (((ls.map (llD 12)).length : Nat) + 1 : Int).toNat = _
    rw [lm]
    rfl
  refine forD_rng (fun i ρ => ∃ (acc : List Lk) (qi : Well) (s5 s6 s7 : Sl), ρ = [.ow (wellO qi), .fr (llsD 12 ls), .fr (.int l), .ow (lsO acc), .fr (.int pl), s5, s6, s7] ∧ qi.2.length ≤ 10000 ∧ acc.length ≤ 4 * i ∧ ((i ≤ ls.length ∧ (acc ++ (splitF l pl i qi (ls.drop i)).1, (splitF l pl i qi (ls.drop i)).2) = splitV q ls l) ∨ (i = ls.length + 1 ∧ (acc, qi) = splitV q ls l)))
    ⟨[], pullW q, .un, .un, .un, rfl, h0, Nat.le_refl _, .inl ⟨Nat.zero_le _, eV.symm⟩⟩ ?_ ?_
  · rintro i ρ hi ⟨acc, qi, s5, s6, s7, rfl, e1, e2, e3⟩ nx hnx
    have hi : i < ls.length + 1 := hi
    obtain ⟨_, e3⟩ : i ≤ ls.length ∧ (acc ++ (splitF l pl i qi (ls.drop i)).1, (splitF l pl i qi (ls.drop i)).2) = splitV q ls l := by
      rcases e3 with e3 | e3
      · exact e3
      · omega
    have ez : (0 : Int) + (i : Int) = (i : Int) := Int.zero_add _
    have eqp : PyData.eqv (.int ((0 : Int) + (i : Int))) (.int (pl : Int)) = decide (i = pl) := by
      rw [eqI, ez]
      exact decide_eq_decide.mpr (by omega)
    refine ite2 (fun hp => ?_) (fun hp => ?_)
    · have hp : i = pl := of_decide_eq_true (eqp.symm.trans hp)
      have hl : 0 ≤ pullV qi l ∧ pullV qi l < l := ⟨pullV_nn _ h1, pullV_lt _ h1⟩
      obtain ⟨c, hc1, hc2⟩ := abcIx hl.1 (show pullV qi l < 3 by omega)
      refine ⟨⟨_, rfl⟩, (qi, l), rfl, rfl, ⟨h1, show qi.2.length ≤ 100000 by omega⟩, ?_⟩
      refine ob_iff.mpr ⟨_, rfl, ob_iff.mpr ⟨_, rfl, ⟨by decide, ob_iff.mpr ⟨c, hc1, ?_⟩⟩⟩⟩
      refine ⟨⟨_, rfl⟩, pullW qi, rfl, rfl, show qi.2.length ≤ 100000 by omega, ?_⟩
      refine ⟨((ptOf (pullV qi l).toNat), len 12 (timeK (pullW qi))), by show [D.str ⟨#[c]⟩, num (len 12 (timeK (pullW qi)))] = [.str (ptOf (pullV qi l).toNat).s, num (len 12 (timeK (pullW qi)))]; rw [hc2], trivial, ?_⟩
      refine ⟨show (acc.map (llD 12)).length + 1 ≤ 100000 by rw [List.length_map]; omega, ?_⟩
      refine ⟨(12, [((ptOf (pullV qi l).toNat), timeK (pullW qi))]), rfl, show (1 : Nat) ≤ 600 by decide, ?_⟩
      refine ⟨show (acc.map (llD 12) ++ [llD 12 ((ptOf (pullV qi l).toNat), timeK (pullW qi))]).length + 1 ≤ 100000 by rw [List.length_append, List.length_map, List.length_singleton]; omega, ?_⟩
      refine obB_iff.mpr ⟨rfl, ?_⟩
      refine nx_at [.ow (wellO (timeW (pullW qi))), .fr (llsD 12 ls), .fr (.int l), .ow (lsO (acc ++ [((ptOf (pullV qi l).toNat), timeK (pullW qi)), ((ptOf (pullV qi l).toNat), -timeK (pullW qi))])), .fr (.int pl), .fr (.int (0 + (i : Int))), .fr (.lst [llD 12 ((ptOf (pullV qi l).toNat), timeK (pullW qi))]), s7] (by
        show _ = [.ow (wellO (timeW (pullW qi))), .fr (llsD 12 ls), .fr (.int l), .ow (.lst ((acc ++ [((ptOf (pullV qi l).toNat), timeK (pullW qi)), ((ptOf (pullV qi l).toNat), -timeK (pullW qi))]).map (llD 12))), .fr (.int pl), .fr (.int (0 + (i : Int))), .fr (.lst [llD 12 ((ptOf (pullV qi l).toNat), timeK (pullW qi))]), s7]
        rw [snoc2]
        rfl) ?_
      have ep : splitP l pl i qi = ([((ptOf (pullV qi l).toNat), timeK (pullW qi)), ((ptOf (pullV qi l).toNat), -timeK (pullW qi))], timeW (pullW qi)) := by unfold splitP; rw [if_pos hp]
      have hq : (timeW (pullW qi)).2.length ≤ 10000 := e1
      have hl : (acc ++ [((ptOf (pullV qi l).toNat), timeK (pullW qi)), ((ptOf (pullV qi l).toNat), -timeK (pullW qi))]).length ≤ 4 * i + 2 := by rw [List.length_append]; simp only [List.length_cons, List.length_nil]; omega
      by_cases hlt : i < ls.length
      · have hd : ls.drop i = ls[i] :: ls.drop (i + 1) := List.drop_eq_getElem_cons hlt
        have hx := h4 ls[i] (List.getElem_mem hlt)
        have ht := timeK_le (timeW (pullW qi))
        have g1 : atI (ls.map (llD 12)) ((0 : Int) + (i : Int)) = some (llD 12 ls[i]) := by
          rw [ez]
          exact atI_nat' (by rw [List.getElem?_map, List.getElem?_eq_getElem hlt]; rfl)
        refine iteT' (decide_eq_true (show (0 : Int) + (i : Int) < ((ls.map (llD 12)).length : Nat) by rw [lm]; omega)) ?_
        refine ⟨⟨_, rfl⟩, timeW (pullW qi), rfl, rfl, show (timeW (pullW qi)).2.length ≤ 100000 by omega, ?_⟩
        repeat refine ob_iff.mpr ⟨_, rfl, ?_⟩
        refine ob_iff.mpr ⟨_, g1, ?_⟩
        refine ⟨(ls[i].1, len 12 (timeK (timeW (pullW qi)))), rfl, trivial, show ((acc ++ [((ptOf (pullV qi l).toNat), timeK (pullW qi)), ((ptOf (pullV qi l).toNat), -timeK (pullW qi))]).map (llD 12)).length < 100000 by rw [List.length_map]; omega, ?_⟩
        repeat refine ob_iff.mpr ⟨_, rfl, ?_⟩
        refine ob_iff.mpr ⟨_, g1, ?_⟩
        repeat refine ob_iff.mpr ⟨_, rfl, ?_⟩
        refine ob_iff.mpr ⟨_, g1, ?_⟩
        refine ⟨len 12 (timeK (timeW (pullW qi))), rfl, trivial, ?_⟩
        refine ⟨(len 12 ls[i].2, -len 12 (timeK (timeW (pullW qi)))), rfl, ⟨(szk_small (by omega)).sz, (szk_small (by omega)).sz.neg⟩, ?_⟩
        refine ⟨(ls[i].1, len 12 ls[i].2 + -len 12 (timeK (timeW (pullW qi)))), rfl, trivial, show ((acc ++ [((ptOf (pullV qi l).toNat), timeK (pullW qi)), ((ptOf (pullV qi l).toNat), -timeK (pullW qi))]).map (llD 12) ++ [llD 12 (ls[i].1, timeK (timeW (pullW qi)))]).length < 100000 by rw [List.length_append, List.length_map, List.length_singleton]; omega, ?_⟩
        refine hnx _ ⟨(acc ++ [((ptOf (pullV qi l).toNat), timeK (pullW qi)), ((ptOf (pullV qi l).toNat), -timeK (pullW qi))]) ++ [(ls[i].1, timeK (timeW (pullW qi))), (ls[i].1, ls[i].2 + -timeK (timeW (pullW qi)))], timeW (timeW (pullW qi)), .fr (.int ((0 : Int) + (i : Int))), .fr (.lst [llD 12 ((ptOf (pullV qi l).toNat), timeK (pullW qi))]), .fr (num (len 12 (timeK (timeW (pullW qi))))), ?_, hq, by rw [List.length_append]; simp only [List.length_cons, List.length_nil]; omega, .inl ⟨by omega, ?_⟩⟩
        · show [_, _, _, Sl.ow (.lst (((acc ++ [((ptOf (pullV qi l).toNat), timeK (pullW qi)), ((ptOf (pullV qi l).toNat), -timeK (pullW qi))]).map (llD 12) ++ [llD 12 (ls[i].1, timeK (timeW (pullW qi)))]) ++ [.tup [.str ls[i].1.s, num (len 12 ls[i].2 + -len 12 (timeK (timeW (pullW qi)))), P1, P1]])), _, _, _, _] = _
          rw [len_neg, len_add (by decide)]
          show _ = [_, _, _, Sl.ow (.lst (((acc ++ [((ptOf (pullV qi l).toNat), timeK (pullW qi)), ((ptOf (pullV qi l).toNat), -timeK (pullW qi))]) ++ [(ls[i].1, timeK (timeW (pullW qi))), (ls[i].1, ls[i].2 + -timeK (timeW (pullW qi)))]).map (llD 12))), _, _, _, _]
          rw [snoc2 (acc ++ [((ptOf (pullV qi l).toNat), timeK (pullW qi)), ((ptOf (pullV qi l).toNat), -timeK (pullW qi))])]
          rfl
        · rw [← e3, hd]
          simp [splitF, ep]
      · refine iteF' (fun z => hlt (by have z := of_decide_eq_true z; have z : (0 : Int) + (i : Int) < ((ls.map (llD 12)).length : Nat) := z; rw [lm] at z; omega)) ?_
        have hie : i = ls.length := by omega
        have hd : ls.drop i = [] := List.drop_eq_nil_of_le (by omega)
        refine hnx _ ⟨acc ++ [((ptOf (pullV qi l).toNat), timeK (pullW qi)), ((ptOf (pullV qi l).toNat), -timeK (pullW qi))], timeW (pullW qi), .fr (.int ((0 : Int) + (i : Int))), .fr (.lst [llD 12 ((ptOf (pullV qi l).toNat), timeK (pullW qi))]), s7, ?_, hq, by omega, .inr ⟨by omega, ?_⟩⟩
        · first
            | rfl
            | (show [_, _, _, Sl.ow (.lst (acc.map (llD 12) ++ _ ++ _)), _, _, _, _] = _
               show _ = [_, _, _, Sl.ow (.lst ((acc ++ [((ptOf (pullV qi l).toNat), timeK (pullW qi)), ((ptOf (pullV qi l).toNat), -timeK (pullW qi))]).map (llD 12))), _, _, _, _]
               rw [List.map_append, List.append_assoc]
               rfl)
        · rw [← e3, hd]
          simp [splitF, ep]
    · have hp : i ≠ pl := fun z => hp (eqp.trans (decide_eq_true z))
      have ep : splitP l pl i qi = ([], qi) := by unfold splitP; rw [if_neg hp]
      have hq : (qi).2.length ≤ 10000 := e1
      have hl : (acc).length ≤ 4 * i + 2 := by omega
      by_cases hlt : i < ls.length
      · have hd : ls.drop i = ls[i] :: ls.drop (i + 1) := List.drop_eq_getElem_cons hlt
        have hx := h4 ls[i] (List.getElem_mem hlt)
        have ht := timeK_le (qi)
        have g1 : atI (ls.map (llD 12)) ((0 : Int) + (i : Int)) = some (llD 12 ls[i]) := by
          rw [ez]
          exact atI_nat' (by rw [List.getElem?_map, List.getElem?_eq_getElem hlt]; rfl)
        refine iteT' (decide_eq_true (show (0 : Int) + (i : Int) < ((ls.map (llD 12)).length : Nat) by rw [lm]; omega)) ?_
        refine ⟨⟨_, rfl⟩, qi, rfl, rfl, show (qi).2.length ≤ 100000 by omega, ?_⟩
        repeat refine ob_iff.mpr ⟨_, rfl, ?_⟩
        refine ob_iff.mpr ⟨_, g1, ?_⟩
        refine ⟨(ls[i].1, len 12 (timeK (qi))), rfl, trivial, show ((acc).map (llD 12)).length < 100000 by rw [List.length_map]; omega, ?_⟩
        repeat refine ob_iff.mpr ⟨_, rfl, ?_⟩
        refine ob_iff.mpr ⟨_, g1, ?_⟩
        repeat refine ob_iff.mpr ⟨_, rfl, ?_⟩
        refine ob_iff.mpr ⟨_, g1, ?_⟩
        refine ⟨len 12 (timeK (qi)), rfl, trivial, ?_⟩
        refine ⟨(len 12 ls[i].2, -len 12 (timeK (qi))), rfl, ⟨(szk_small (by omega)).sz, (szk_small (by omega)).sz.neg⟩, ?_⟩
        refine ⟨(ls[i].1, len 12 ls[i].2 + -len 12 (timeK (qi))), rfl, trivial, show ((acc).map (llD 12) ++ [llD 12 (ls[i].1, timeK (qi))]).length < 100000 by rw [List.length_append, List.length_map, List.length_singleton]; omega, ?_⟩
        refine hnx _ ⟨(acc) ++ [(ls[i].1, timeK (qi)), (ls[i].1, ls[i].2 + -timeK (qi))], timeW (qi), .fr (.int ((0 : Int) + (i : Int))), s6, .fr (num (len 12 (timeK (qi)))), ?_, hq, by rw [List.length_append]; simp only [List.length_cons, List.length_nil]; omega, .inl ⟨by omega, ?_⟩⟩
        · show [_, _, _, Sl.ow (.lst (((acc).map (llD 12) ++ [llD 12 (ls[i].1, timeK (qi))]) ++ [.tup [.str ls[i].1.s, num (len 12 ls[i].2 + -len 12 (timeK (qi))), P1, P1]])), _, _, _, _] = _
          rw [len_neg, len_add (by decide)]
          show _ = [_, _, _, Sl.ow (.lst (((acc) ++ [(ls[i].1, timeK (qi)), (ls[i].1, ls[i].2 + -timeK (qi))]).map (llD 12))), _, _, _, _]
          rw [snoc2 acc]
          rfl
        · rw [← e3, hd]
          simp [splitF, ep]
      · refine iteF' (fun z => hlt (by have z := of_decide_eq_true z; have z : (0 : Int) + (i : Int) < ((ls.map (llD 12)).length : Nat) := z; rw [lm] at z; omega)) ?_
        have hie : i = ls.length := by omega
        have hd : ls.drop i = [] := List.drop_eq_nil_of_le (by omega)
        refine hnx _ ⟨acc, qi, .fr (.int ((0 : Int) + (i : Int))), s6, s7, ?_, hq, by omega, .inr ⟨by omega, ?_⟩⟩
        · first
            | rfl
            | (show [_, _, _, Sl.ow (.lst (acc.map (llD 12) ++ _ ++ _)), _, _, _, _] = _
               show _ = [_, _, _, Sl.ow (.lst ((acc).map (llD 12))), _, _, _, _]
               rw [List.map_append, List.append_assoc]
               rfl)
        · rw [← e3, hd]
          simp [splitF, ep]
  · rintro ρ ⟨acc, qi, s5, s6, s7, rfl, e1, e2, e3⟩
    have e3 : (acc, qi) = splitV q ls l := by
      rcases e3 with e3 | e3
      · have : ls.length + 1 ≤ ls.length := e3.1
        omega
      · exact e3.2
    refine ⟨?_, ?_⟩
    · show Res.ow (lsO (splitV q ls l).1) = Res.ow (lsO acc)
      rw [← e3]
    · show some (Sl.ow (wellO qi)) = some (Sl.ow (wellO (splitV q ls l).2))
      rw [← e3]
theorem d_l_split (T : Tx K mg) : Gd P w K mg base "_law_split" 4 [] ((cw_l_split K).sp K) := by
  obtain ⟨fd, F⟩ := T.d_l_split
  exact gd_of T.g_l_split F.kp (F.bindsN fun _ _ _ _ _ _ us hl => match us, hl with | [_, _, _], _ => rfl) (ok_l_split T F)
end
end W86
end
section
set_option Elab.async false
set_option linter.all false
set_option maxRecDepth 100000
set_option maxHeartbeats 1000000
set_option exponentiation.threshold 100000
/-! WV: the well. -/
namespace W86
open PySem PySem.Spec PyProof.Rows L2 Evl DL
open He (ga ma)
open He5 (wf)
def mixL (i : Nat) : Nat → Nat → Int → List Int
  | 0, _, _ => []
  | n + 1, t, m => ((m * m + 40014 * (t : Int) + i + 1) % 2147483563) / 7 :: mixL i n (t + 1) ((m * m + 40014 * (t : Int) + i + 1) % 2147483563)
def digL : Nat → Int → List Int
  | 0, _ => []
  | n + 1, c => if 0 < c then c % 60 :: digL n (c / 60) else digL n c
def cellOf (c : Int) : Int := if c < 0 then 2 - 3 * c else c
def wellX (i : Nat) (c : Int) : List Int := if c < 10 ^ 18 then mixL i 5 0 ((c * 16807 + (i : Int) * 7919 + 3) % 2147483647) else digL 50 c
def wellA (i : Nat) (c : Int) : List Int := wellX i (cellOf c)
def wellL (ns : List Int) : Nat → Nat → List Int
  | 0, _ => []
  | n + 1, i => (if h : i < ns.length then wellA i ns[i] else []) ++ wellL ns n (i + 1)
def wellV (ns : List Int) : Well := (0, wellL ns 63 0)
theorem wellX_len (i : Nat) (c : Int) : (wellX i c).length ≤ 50 := by
  have h1 : ∀ (n t : Nat) (m : Int), (mixL i n t m).length = n := by
    intro n
    induction n with
    | zero => exact fun _ _ => rfl
    | succ n ih => exact fun t m => by show (_ :: mixL i n _ _).length = _; rw [List.length_cons, ih]
  have h2 : ∀ (n : Nat) (c : Int), (digL n c).length ≤ n := by
    intro n
    induction n with
    | zero => exact fun _ => Nat.le_refl _
    | succ n ih =>
      intro c
      unfold digL
      split
      · rw [List.length_cons]
        exact Nat.succ_le_succ (ih _)
      · exact Nat.le_succ_of_le (ih _)
  unfold wellX
  split
  · rw [h1]; decide
  · exact h2 _ _
theorem intsnoc (a : List Int) (x : Int) : (a ++ [x]).map D.int = a.map D.int ++ [D.int x] := by
  rw [List.map_append]
  rfl
def rdW : DS := dIfS (dB (dOp (gCmp fun i j => decide (i < j)) (dVar 3) (dOp gPow (dC (D.int 10)) (dC (D.int 18)))))
  (dSeq
    (dSet false 4
      (dOp gMod
        (dCB1 gInt
          (dOp gAdd
            (dOp gAdd (dOp gMul (dVar 3) (dC (D.int 16807))) (dOp gMul (dVar 2) (dC (D.int 7919))))
            (dC (D.int 3))))
        (dC (D.int 2147483647))))
    (dFor (dRng1 (dCons false (dC (D.int 5)) dNil)) (dgName false 5)
      (dSeq
        (dSet false 4
          (dOp gMod
            (dCB1 gInt
              (dOp gAdd
                (dOp gAdd (dOp gAdd (dOp gMul (dVar 4) (dVar 4)) (dOp gMul (dC (D.int 40014)) (dVar 5)))
                  (dVar 2))
                (dC (D.int 1))))
            (dC (D.int 2147483563))))
        (dDrop (dApp false 1 (dOp gFdiv (dVar 4) (dC (D.int 7))))))))
  (dFor (dRng1 (dCons false (dC (D.int 50)) dNil)) (dgName false 5)
    (dIfS (dB (dOp (gCmp fun i j => decide (j < i)) (dVar 3) (dC (D.int 0))))
      (dSeq (dDrop (dApp false 1 (dOp gMod (dCB1 gInt (dVar 3)) (dC (D.int 60)))))
        (dSet false 3 (dOp gFdiv (dVar 3) (dC (D.int 60)))))
      fun D ρ => D.nx ρ))
theorem rdW_ok {E : DEnds} {S : DL.D} {acc : List Int} {i : Nat} {c : Int} {s4 s5 : Sl} (ha : acc.length ≤ 5000)
    (h : ∀ s3 s4 s5 : Sl, E.nx [.fr S, .ow (.lst ((acc ++ wellX i c).map D.int)), .fr (.int ((0 : Int) + (i : Int))), s3, s4, s5]) :
    rdW E [.fr S, .ow (.lst (acc.map D.int)), .fr (.int ((0 : Int) + (i : Int))), .fr (.int c), s4, s5] := by
  refine ⟨⟨by decide, by decide, by decide⟩, ?_⟩
  refine ite2 (fun hn => ?_) (fun hn => ?_)
  · have hn : c < 10 ^ 18 := of_decide_eq_true hn
    unfold wellX at h
    rw [if_pos hn] at h
    refine ⟨.inl (.inr ⟨by decide, by decide⟩), .inl (.inr ⟨by decide, by decide⟩), ⟨by decide, ?_⟩⟩
    have hm0 := Int.emod_nonneg (c * 16807 + ((0 : Int) + (i : Int)) * 7919 + 3) (show (2147483647 : Int) ≠ 0 by decide)
    have hm1 := Int.emod_lt_of_pos (c * 16807 + ((0 : Int) + (i : Int)) * 7919 + 3) (show (0 : Int) < 2147483647 by decide)
    have em : c * 16807 + ((0 : Int) + (i : Int)) * 7919 + 3 = c * 16807 + (i : Int) * 7919 + 3 := by omega
    rw [← em] at h
    generalize (c * 16807 + ((0 : Int) + (i : Int)) * 7919 + 3) % 2147483647 = m at h hm0 hm1
    refine ⟨⟨by decide, by decide⟩, ?_⟩
    refine forD_is (g := dgName false 5) (rng 0 5) [.fr S, .ow (.lst (acc.map D.int)), .fr (.int ((0 : Int) + (i : Int))), .fr (.int c), .fr (.int m), s5] rfl rfl ?_
    refine forD_rng (fun t ρ => ∃ (ac : List Int) (mt : Int) (s5 : Sl), ρ = [.fr S, .ow (.lst (ac.map D.int)), .fr (.int ((0 : Int) + (i : Int))), .fr (.int c), .fr (.int mt), s5] ∧ 0 ≤ mt ∧ mt < 2147483647 ∧ ac.length ≤ 5000 + t ∧ ac ++ mixL i (5 - t) t mt = acc ++ mixL i 5 0 m) ⟨acc, m, s5, rfl, hm0, hm1, ha, rfl⟩ ?_ ?_
    · rintro t ρ ht ⟨ac, mt, s5, rfl, e1, e2, e3, e4⟩ nx hnx
      have ht : t < 5 := ht
      refine ⟨.inl (.inl ⟨by omega, by omega⟩), .inl (.inl ⟨by decide, by decide⟩), ⟨by decide, ?_⟩⟩
      have hm0 := Int.emod_nonneg (mt * mt + 40014 * ((0 : Int) + (t : Int)) + ((0 : Int) + (i : Int)) + 1) (show (2147483563 : Int) ≠ 0 by decide)
      have hm1 := Int.emod_lt_of_pos (mt * mt + 40014 * ((0 : Int) + (t : Int)) + ((0 : Int) + (i : Int)) + 1) (show (0 : Int) < 2147483563 by decide)
      have em : mt * mt + 40014 * ((0 : Int) + (t : Int)) + ((0 : Int) + (i : Int)) + 1 = mt * mt + 40014 * (t : Int) + (i : Int) + 1 := by rw [Int.zero_add, Int.zero_add]
      refine ⟨divS (by decide) (by decide), show (ac.map D.int).length < 100000 by rw [List.length_map]; omega, ?_⟩
      refine hnx _ ⟨ac ++ [(mt * mt + 40014 * ((0 : Int) + (t : Int)) + ((0 : Int) + (i : Int)) + 1) % 2147483563 / 7], (mt * mt + 40014 * ((0 : Int) + (t : Int)) + ((0 : Int) + (i : Int)) + 1) % 2147483563, .fr (.int ((0 : Int) + (t : Int))), ?_, hm0, by omega, by rw [List.length_append, List.length_singleton]; omega, ?_⟩
      · rw [intsnoc]
        rfl
      · rw [← e4, em, show 5 - t = (5 - (t + 1)) + 1 by omega, List.append_assoc]
        rfl
    · rintro ρ ⟨ac, mt, s5, rfl, e1, e2, e3, e4⟩
      have e4 : ac = acc ++ mixL i 5 0 m := by rw [← e4]; exact (List.append_nil _).symm
      rw [e4]
      exact h _ _ _
  · have hn : ¬ c < 10 ^ 18 := fun z => hn (decide_eq_true z)
    unfold wellX at h
    rw [if_neg hn] at h
    refine ⟨⟨by decide, by decide⟩, ?_⟩
    refine forD_is (g := dgName false 5) (rng 0 50) [.fr S, .ow (.lst (acc.map D.int)), .fr (.int ((0 : Int) + (i : Int))), .fr (.int c), s4, s5] rfl rfl ?_
    refine forD_rng (fun t ρ => ∃ (ac : List Int) (ct : Int) (s5 : Sl), ρ = [.fr S, .ow (.lst (ac.map D.int)), .fr (.int ((0 : Int) + (i : Int))), .fr (.int ct), s4, s5] ∧ ac.length ≤ 5000 + t ∧ ac ++ digL (50 - t) ct = acc ++ digL 50 c) ⟨acc, c, s5, rfl, ha, rfl⟩ ?_ ?_
    · rintro t ρ ht ⟨ac, ct, s5, rfl, e3, e4⟩ nx hnx
      have ht : t < 50 := ht
      have en : 50 - t = (50 - (t + 1)) + 1 := by omega
      refine ite2 (fun hp => ?_) (fun hp => ?_)
      · have hp : 0 < ct := of_decide_eq_true hp
        refine ⟨by decide, show (ac.map D.int).length < 100000 by rw [List.length_map]; omega, divS (by decide) (by decide), ?_⟩
        refine hnx _ ⟨ac ++ [ct % 60], ct / 60, .fr (.int ((0 : Int) + (t : Int))), ?_, by rw [List.length_append, List.length_singleton]; omega, ?_⟩
        · rw [intsnoc]
          rfl
        · rw [← e4, en, List.append_assoc]
          show _ = ac ++ (if 0 < ct then ct % 60 :: digL (50 - (t + 1)) (ct / 60) else digL (50 - (t + 1)) ct)
          rw [if_pos hp]
          rfl
      · have hp : ¬ 0 < ct := fun z => hp (decide_eq_true z)
        refine hnx _ ⟨ac, ct, .fr (.int ((0 : Int) + (t : Int))), rfl, by omega, ?_⟩
        rw [← e4, en]
        show _ = ac ++ (if 0 < ct then ct % 60 :: digL (50 - (t + 1)) (ct / 60) else digL (50 - (t + 1)) ct)
        rw [if_neg hp]
    · rintro ρ ⟨ac, ct, s5, rfl, e3, e4⟩
      have e4 : ac = acc ++ digL 50 c := by rw [← e4]; exact (List.append_nil _).symm
      rw [e4]
      exact h _ _ _
section
variable {P : Program} {w : World} {K : Fr} {mg : Str → Option Value} {base : Heap}
def ct_l_well (K : Fr) : Ct := ⟨List Int, fun ns => [.rl (ns.map D.int)], fun ns => ns.length ≤ 63, fun ns => .ow (wellO (wellV ns))⟩
theorem ok_l_well (T : Tx K mg) {fd : FuncData} (F : L2.FunD K a_l_well.name a_l_well.qual a_l_well.params a_l_well.body a_l_well.scope [] [] (ga K "_law_well") fd) : FnOk P w K mg base CX0 1 (ga K "_law_well") fd ["script"] ((ct_l_well K).sp K) := by
  refine ct_ok F sc_l_well (fun a => rfl) fun cdv A outer s H E hr => ?_
  refine ⟨_, _, (pdss_cons (pds_set 1 (pd_lst pda_nil) sc_l_well.nd)
  (pdss_cons (pds_for PassesOwn.never rfl (pdi_range1 T.b_range (pda_cons pd_int pda_nil)) (pdg_name 2 sc_l_well.nd)
  (pdss_one (pds_if (pdt_cmp op_lt vo_cmp (pd_name 2) (pd_callB1 call_lenA vo_len T.b_len (pd_name 0)) (nomark _)) (pdss_cons (pds_set 3 (pd_callTy1 call_int1 vo_int T.b_int (pd_ix ix_seq vo_ix (pd_name 0) (pd_name 2) (fun _ _ => rfl))) sc_l_well.nd)
  (pdss_cons (pds_if (pdt_cmp op_lt vo_cmp (pd_name 3) pd_int (nomark _)) (pdss_one (pds_set 3 (pd_op op_sub vo_sub pd_int (pd_op op_mulA vo_mul pd_int (pd_name 3))) sc_l_well.nd)) pdss_nil)
  (pdss_one (pds_if (pdt_cmp op_lt vo_cmp (pd_name 3) (pd_op op_pow vo_pow pd_int pd_int) (nomark _)) (pdss_cons (pds_set 4 (pd_op op_mod vo_mod (pd_callTy1 call_int1 vo_int T.b_int (pd_op op_addA vo_add (pd_op op_addA vo_add (pd_op op_mulA vo_mul (pd_name 3) pd_int) (pd_op op_mulA vo_mul (pd_name 2) pd_int)) pd_int)) pd_int) sc_l_well.nd)
  (pdss_one (pds_for PassesOwn.never rfl (pdi_range1 T.b_range (pda_cons pd_int pda_nil)) (pdg_name 5 sc_l_well.nd)
  (pdss_cons (pds_set 4 (pd_op op_mod vo_mod (pd_callTy1 call_int1 vo_int T.b_int (pd_op op_addA vo_add (pd_op op_addA vo_add (pd_op op_addA vo_add (pd_op op_mulA vo_mul (pd_name 4) (pd_name 4)) (pd_op op_mulA vo_mul pd_int (pd_name 5))) (pd_name 2)) pd_int)) pd_int) sc_l_well.nd)
  (pdss_one (pds_expr (pd_app 1 (pd_op op_fdivW vo_fdiv (pd_name 4) pd_int)))))))) (pdss_one (pds_for PassesOwn.never rfl (pdi_range1 T.b_range (pda_cons pd_int pda_nil)) (pdg_name 5 sc_l_well.nd)
  (pdss_one (pds_if (pdt_cmp op_gt vo_cmp (pd_name 3) pd_int (nomark _)) (pdss_cons (pds_expr (pd_app 1 (pd_op op_mod vo_mod (pd_callTy1 call_int1 vo_int T.b_int (pd_name 3)) pd_int)))
  (pdss_one (pds_set 3 (pd_op op_fdivW vo_fdiv (pd_name 3) pd_int) sc_l_well.nd))) pdss_nil)))))))) pdss_nil)))
  (pdss_one (pds_ret (pd_lst (pda_cons pd_int (pda_cons (pd_name 1) pda_nil))))))), ?_⟩
  rintro (ns : List Int) h
  have h : ns.length ≤ 63 := h
  refine ⟨⟨by decide, by decide⟩, ?_⟩
  refine forD_is (g := dgName false 2) (rng 0 63) [.fr (.rl (ns.map D.int)), .ow (.lst (([] : List Int).map D.int)), .un, .un, .un, .un] rfl rfl ?_
  refine forD_rng (fun i ρ => ∃ (acc : List Int) (s2 s3 s4 s5 : Sl), ρ = [.fr (.rl (ns.map D.int)), .ow (.lst (acc.map D.int)), s2, s3, s4, s5] ∧ acc.length ≤ 50 * i ∧ acc ++ wellL ns (63 - i) i = wellL ns 63 0) ⟨[], .un, .un, .un, .un, rfl, Nat.le_refl _, rfl⟩ ?_ ?_
  · rintro i ρ hi ⟨acc, s2, s3, s4, s5, rfl, e1, e2⟩ nx hnx
    have hi : i < 63 := hi
    have ez : (0 : Int) + (i : Int) = (i : Int) := Int.zero_add _
    have lm : (ns.map D.int).length = ns.length := List.length_map _
    have en : 63 - i = (63 - (i + 1)) + 1 := by omega
    by_cases hlt : i < ns.length
    · refine iteT' (decide_eq_true (show (0 : Int) + (i : Int) < ((ns.map D.int).length : Nat) by rw [lm]; omega)) ?_
      have e3 : acc ++ wellA i ns[i] ++ wellL ns (63 - (i + 1)) (i + 1) = wellL ns 63 0 := by
        rw [← e2, en]
        show _ = acc ++ ((if h : i < ns.length then wellA i ns[i] else []) ++ wellL ns (63 - (i + 1)) (i + 1))
        rw [dif_pos hlt, List.append_assoc]
      have g1 : atI (ns.map D.int) ((0 : Int) + (i : Int)) = some (D.int ns[i]) := by
        rw [ez]
        exact atI_nat' (by rw [List.getElem?_map, List.getElem?_eq_getElem hlt]; rfl)
      refine ob_iff.mpr ⟨_, g1, ?_⟩
      generalize hc : ns[i] = c at e3
      have fin : ∀ s3 s4 s5 : Sl, nx [.fr (.rl (ns.map D.int)), .ow (.lst ((acc ++ wellX i (cellOf c)).map D.int)), .fr (.int ((0 : Int) + (i : Int))), s3, s4, s5] := fun s3 s4 s5 => by
        refine hnx _ ⟨_, _, s3, s4, s5, rfl, ?_, e3⟩
        have := wellX_len i (cellOf c)
        rw [List.length_append]
        omega
      refine ite2 (fun hn => ?_) (fun hn => ?_)
      · have hn : c < 0 := of_decide_eq_true hn
        refine ⟨.inl (.inl ⟨by decide, by decide⟩), ?_⟩
        refine ds_at (t := rdW) [.fr (.rl (ns.map D.int)), .ow (.lst (acc.map D.int)), .fr (.int ((0 : Int) + (i : Int))), .fr (.int (2 - 3 * c)), s4, s5] rfl ?_
        refine rdW_ok (by omega) ?_
        have ec : cellOf c = 2 - 3 * c := if_pos hn
        rw [ec] at fin
        exact fin
      · have hn : ¬ c < 0 := fun z => hn (decide_eq_true z)
        refine ds_at (t := rdW) [.fr (.rl (ns.map D.int)), .ow (.lst (acc.map D.int)), .fr (.int ((0 : Int) + (i : Int))), .fr (.int c), s4, s5] rfl ?_
        refine rdW_ok (by omega) ?_
        have ec : cellOf c = c := if_neg hn
        rw [ec] at fin
        exact fin
    · refine iteF' (fun z => hlt (by have z := of_decide_eq_true z; have z : (0 : Int) + (i : Int) < ((ns.map D.int).length : Nat) := z; rw [lm] at z; omega)) ?_
      refine hnx _ ⟨acc, _, s3, s4, s5, rfl, by omega, ?_⟩
      rw [← e2, en]
      show _ = acc ++ ((if h : i < ns.length then wellA i ns[i] else []) ++ wellL ns (63 - (i + 1)) (i + 1))
      rw [dif_neg hlt]
      rfl
  · rintro ρ ⟨acc, s2, s3, s4, s5, rfl, e1, e2⟩
    have e2 : acc = wellL ns 63 0 := by rw [← e2]; exact (List.append_nil _).symm
    show Res.ow (wellO (wellV ns)) = Res.ow (wellO (0, acc))
    rw [e2]
    rfl
theorem d_l_well (T : Tx K mg) : Gd P w K mg base "_law_well" 1 [] ((ct_l_well K).sp K) := by
  obtain ⟨fd, F⟩ := T.d_l_well
  exact gd_of T.g_l_well F.kp (F.bindsN fun _ _ _ _ _ _ us hl => match us, hl with | [_], _ => rfl) (ok_l_well T F)
end
end W86
end
section
set_option Elab.async false
set_option linter.all false
set_option maxRecDepth 100000
set_option maxHeartbeats 100000
set_option exponentiation.threshold 100000
/-! WX: what is not kept. -/
namespace W86
open PySem PySem.Spec PyProof.Rows L2 Evl DL
open He (ga ma)
open He5 (wf)
def nxP : Pt → Pt
  | .a => .b
  | .b => .c
  | .c => .a
theorem bcaIx {i : Int} (h0 : 0 ≤ i) (h : i < 3) : ∃ c d, atI ("abc" : Str).cps.toList i = some c ∧ (⟨#[c]⟩ : Str) = (ptOf i.toNat).s ∧ atI ("bca" : Str).cps.toList i = some d ∧ (⟨#[d]⟩ : Str) = (nxP (ptOf i.toNat)).s := by
  have : i = 0 ∨ i = 1 ∨ i = 2 := by omega
  rcases this with rfl | rfl | rfl
  · exact ⟨_, _, rfl, by decide +kernel, rfl, by decide +kernel⟩
  · exact ⟨_, _, rfl, by decide +kernel, rfl, by decide +kernel⟩
  · exact ⟨_, _, rfl, by decide +kernel, rfl, by decide +kernel⟩
theorem nxP_ne (p : Pt) : nxP p ≠ p := by cases p <;> decide
theorem n12 : num (len 12 12) = .tup [.int 1, .int 1] := by
  have e1 : len 12 12 = 1 := by decide +kernel
  rw [e1]
  rfl
theorem n0 : num (len 12 0) = .tup [.int 0, .int 1] := by
  rw [len_zero]
  rfl
/-- the size drawn -/
def sizeK (k : Int) : Int := if k = 0 then 12 else (k.natAbs : Int)
theorem kept_red {p o : Pt} (h : o ≠ p) {k e : Int} (hk : 0 < k) (he : 0 ≤ e) : red [(p, -k), (o, 12), (p, k + e)] = [(p, -k), (o, 12), (p, k + e)] := by
  refine red_rd ⟨fun x hx => ?_, fun a x y b e1 => ?_⟩
  · simp at hx
    rcases hx with rfl | rfl | rfl
    · show -k ≠ 0; omega
    · show (12 : Int) ≠ 0; decide
    · show k + e ≠ 0; omega
  · rcases a with _ | ⟨a1, _ | ⟨a2, _ | ⟨a3, a⟩⟩⟩
    · simp at e1
      obtain ⟨rfl, rfl, rfl⟩ := e1
      exact fun z => h z.symm
    · simp at e1
      obtain ⟨rfl, rfl, rfl, rfl⟩ := e1
      exact h
    · simp at e1
    · simp at e1
theorem kept_ever {p o : Pt} (h : o ≠ p) {k e : Int} (hk : 0 < k) (he : 0 ≤ e) : fwd (Cy [(p, -k), (o, 12), (p, k + e)]) = true := by
  show fwd (rounded' _).1 = true
  rw [rounded_cyc, kept_red h hk he]
  have := cyc_step (f := (p, -k)) (m := [(o, 12)]) (l := (p, k + e)) rfl
  rw [show [(p, -k), (o, 12), (p, k + e)] = (p, -k) :: ([(o, 12)] ++ [(p, k + e)]) from rfl, this]
  show fwd (cyc (if k + e + -k = 0 then [(o, 12)] else (p, k + e + -k) :: [(o, 12)])) = true
  split
  · rw [cyc_short (r := [(o, 12)]) (Nat.le_refl 1)]
    rfl
  · have hc := cyc_stop (f := (p, k + e + -k)) (m := []) (l := (o, 12)) (fun z => h z.symm)
    rw [show (p, k + e + -k) :: [(o, 12)] = (p, k + e + -k) :: ([] ++ [(o, (12 : Int))]) from rfl, hc]
    refine fwd_iff.mpr fun x hx => ?_
    simp at hx
    rcases hx with rfl | rfl
    · show 0 ≤ k + e + -k; omega
    · show (0 : Int) ≤ 12; decide
theorem wt_le {B : Nat} : ∀ (ls : List Lk), (∀ x ∈ ls, x.2.natAbs ≤ B) → wt ls ≤ ls.length * B
  | [], _ => Nat.zero_le _
  | x :: ls, h => by
    have h1 := wt_le ls fun y hy => h y (List.mem_cons_of_mem _ hy)
    have h2 := h x List.mem_cons_self
    rw [wt_cons, List.length_cons, Nat.succ_mul]
    omega
theorem fit2_of {ls : List Lk} (hl : ls.length ≤ 600) (h : ∀ x ∈ ls, x.2.natAbs ≤ 100000) : Fit2 12 ls := by
  refine ⟨by decide, by decide, ?_, hl⟩
  have h1 := wt_le ls h
  have h2 : ls.length * 100000 ≤ 600 * 100000 := Nat.mul_le_mul_right _ hl
  have h3 : 600 * 100000 < 2 ^ 64 := by decide
  omega
theorem nx_to {f bk ct : Ro → Prop} {rt : Res → Ro → Prop} {ρ : Ro} (ρ' : Ro) (e : ρ = ρ') (h : f ρ') : DEnds.nx { nx := f, rt := rt, bk := bk, ct := ct } ρ := by
  subst e
  exact h
theorem seq_ix {b : Bool} {j i : Nat} {s : Str} {c : Nat} {x : Int} {u : DS} {E : DEnds} {ρ : Ro} (hl : s.length ≤ 100000) (hj : okB b j = true) (hv : ρ[i]? = some (.fr (.int x))) (h : atI s.cps.toList x = some c) (k : u E (ρ.set j (.fr (.str ⟨#[c]⟩)))) : dSeq (dSet b j (dOp gIx (dC (.str s)) (dVar i))) u E ρ := by
  unfold dSeq dSet dOp dC dVar
  simp only [hv]
  refine ob_iff.mpr ⟨_, rfl, ob_iff.mpr ⟨_, rfl, ⟨hl, ob_iff.mpr ⟨c, h, ?_⟩⟩⟩⟩
  exact obB_iff.mpr ⟨hj, k⟩
section
variable {P : Program} {w : World} {K : Fr} {mg : Str → Option Value} {base : Heap}
def cw_l_not_kept (K : Fr) : Cw := ⟨Well, fun q => wellO q, fun _ => [], fun q => q.2.length ≤ 10000, fun _ => .fr (.bl true), fun q => wellO (pullW (timeW (pullW q)))⟩
theorem ok_l_not_kept (T : Tx K mg) {fd : FuncData} (F : L2.FunD K a_l_not_kept.name a_l_not_kept.qual a_l_not_kept.params a_l_not_kept.body a_l_not_kept.scope [] [] (ga K "_law_not_kept") fd) : FnOk P w K mg base CX0 17 (ga K "_law_not_kept") fd ["well"] ((cw_l_not_kept K).sp K) := by
  refine cw_ok F sc_l_not_kept (fun a => rfl) fun cdv A outer s H E hr => ?_
  refine ⟨_, _, (pdss_cons (pds_set 1 (pd_callW 0 (d_l_pull T) (hr.mono (by decide)) rfl (.inl rfl) (pda_cons pd_int pda_nil)) sc_l_not_kept.nd)
  (pdss_cons (pds_set 2 (pd_ix ix_seq vo_ix pd_str (pd_name 1) (fun _ _ => rfl)) sc_l_not_kept.nd)
  (pdss_cons (pds_set 3 (pd_ix ix_seq vo_ix pd_str (pd_name 1) (fun _ _ => rfl)) sc_l_not_kept.nd)
  (pdss_cons (pds_set 4 (pd_callW 0 (d_l_time T) (hr.mono (by decide)) rfl (.inl rfl) pda_nil) sc_l_not_kept.nd)
  (pdss_cons (pds_set 5 (pd_tup (pda_cons (pd_callB (call_max2 rfl) vo_max2 T.b_max (pda_cons pd_int (pda_cons (pd_callB1 call_abs vo_abs T.b_abs (pd_ix ix_seq vo_ix (pd_name 4) pd_int (fun _ _ => rfl))) pda_nil))) (pda_cons (pd_ix ix_seq vo_ix (pd_name 4) pd_int (fun _ _ => rfl)) pda_nil))) sc_l_not_kept.nd)
  (pdss_cons (pds_set 6 (pd_call (d_l_add T) (hr.mono (by decide)) (pda_cons (pd_name 5) (pda_cons (pd_ix ix_seq vo_ix (pd_lst (pda_cons (pd_tup (pda_cons pd_int (pda_cons pd_int pda_nil))) (pda_cons (pd_tup (pda_cons pd_int (pda_cons pd_int pda_nil))) pda_nil))) (pd_callW 0 (d_l_pull T) (hr.mono (by decide)) rfl (.inl rfl) (pda_cons pd_int pda_nil)) (fun _ _ => rfl)) pda_nil))) sc_l_not_kept.nd)
  (pdss_cons (pds_set 7 (pd_call (d_l_true T) (hr.mono (by decide)) (pda_cons (pd_name 2) (pda_cons (pd_call (d_l_neg T) (hr.mono (by decide)) (pda_cons (pd_name 5) pda_nil)) pda_nil))) sc_l_not_kept.nd)
  (pdss_cons (pds_set 8 (pd_call (d_l_row T) (hr.mono (by decide)) (pda_cons (pd_lst (pda_cons (pd_name 7) (pda_cons (pd_call (d_l_true T) (hr.mono (by decide)) (pda_cons (pd_name 3) (pda_cons (pd_tup (pda_cons pd_int (pda_cons pd_int pda_nil))) pda_nil))) (pda_cons (pd_call (d_l_true T) (hr.mono (by decide)) (pda_cons (pd_name 2) (pda_cons (pd_name 6) pda_nil))) pda_nil)))) pda_nil)) sc_l_not_kept.nd)
  (pdss_one (pds_ret (pd_and (pd_call (d_l_said T) (hr.mono (by decide)) (pda_cons (pd_name 8) (pda_cons pd_bl (pda_cons pd_bl pda_nil)))) (pd_one (pd_call (d_l_said T) (hr.mono (by decide)) (pda_cons (pd_call (d_l_row T) (hr.mono (by decide)) (pda_cons (pd_lst (pda_cons (pd_call (d_l_true T) (hr.mono (by decide)) (pda_cons (pd_name 3) (pda_cons (pd_tup (pda_cons pd_int (pda_cons pd_int pda_nil))) pda_nil))) pda_nil)) pda_nil)) (pda_cons pd_bl (pda_cons pd_bl pda_nil)))))))))))))))), ?_⟩
  rintro (q : Well) h0
  have h0 : q.2.length ≤ 10000 := h0
  obtain ⟨i, hi⟩ : ∃ i, pullV q 3 = i := ⟨_, rfl⟩
  have hs : 0 ≤ i ∧ i < 3 := by
    rw [← hi]
    exact ⟨pullV_nn _ (by decide), pullV_lt _ (by decide)⟩
  obtain ⟨c, d, hc1, hc2, hd1, hd2⟩ := bcaIx hs.1 hs.2
  have hpo := nxP_ne (ptOf i.toNat)
  generalize ptOf i.toNat = p at hc2 hd2 hpo
  generalize nxP p = o at hd2 hpo
  obtain ⟨k, hk⟩ : ∃ k, timeK (pullW q) = k := ⟨_, rfl⟩
  have ht : k.natAbs ≤ 60 := by
    rw [← hk]
    exact timeK_le (pullW q)
  refine ⟨⟨_, rfl⟩, (q, 3), rfl, rfl, ⟨show (0 : Int) < 3 by decide, show q.2.length ≤ 100000 by omega⟩, ?_⟩
  refine obB_iff.mpr ⟨rfl, ?_⟩
  refine nx_to [.ow (wellO (pullW q)), .fr (.int i), .un, .un, .un, .un, .un, .un, .un] (by rw [← hi]; rfl) ?_
  refine seq_ix (by decide) (by rfl) (by rfl) hc1 ?_
  refine seq_ix (by decide) (by rfl) (by rfl) hd1 ?_
  refine ⟨⟨_, rfl⟩, pullW q, rfl, rfl, show q.2.length ≤ 100000 by omega, ?_⟩
  refine obB_iff.mpr ⟨rfl, ?_⟩
  refine nx_to [.ow (wellO (timeW (pullW q))), .fr (.int i), .fr (.str p.s), .fr (.str o.s), .fr (num (len 12 k)), .un, .un, .un, .un] (by
    rw [← hc2, ← hd2, ← hk]
    rfl) ?_
  have hb : 0 ≤ pullV (timeW (pullW q)) 2 ∧ pullV (timeW (pullW q)) 2 < 2 := ⟨pullV_nn _ (by decide), pullV_lt _ (by decide)⟩
  obtain ⟨e, he, hx⟩ : ∃ e : Int, (e = 0 ∨ e = 12) ∧ atI [.tup [.int 0, .int 1], .tup [.int 1, .int 1]] (pullV (timeW (pullW q)) 2) = some (num (len 12 e)) := by
    have : pullV (timeW (pullW q)) 2 = 0 ∨ pullV (timeW (pullW q)) 2 = 1 := by omega
    rcases this with z | z
    · exact ⟨0, .inl rfl, by rw [z, n0]; rfl⟩
    · exact ⟨12, .inr rfl, by rw [z, n12]; rfl⟩
  have hz : D.tup [.int (if (if (len 12 k).num < 0 then -(len 12 k).num else (len 12 k).num) > 1 then (if (len 12 k).num < 0 then -(len 12 k).num else (len 12 k).num) else 1), .int ((len 12 k).den : Nat)] = num (len 12 (sizeK k)) := num_fix k
  have hk0 : 0 < sizeK k ∧ (sizeK k).natAbs ≤ 60 := by
    unfold sizeK
    split <;> omega
  refine ⟨⟨_, rfl⟩, (timeW (pullW q), 2), rfl, rfl, ⟨show (0 : Int) < 2 by decide, show q.2.length ≤ 100000 by omega⟩, ?_⟩
  refine ob_iff.mpr ⟨_, rfl, ob_iff.mpr ⟨_, rfl, ob_iff.mpr ⟨_, hx, ?_⟩⟩⟩
  refine ⟨(len 12 (sizeK k), len 12 e), by show [_, _] = [num (len 12 (sizeK k)), _]; rw [← hz], ⟨(szk_small (by omega)).sz, (szk_small (by omega)).sz⟩, ?_⟩
  refine obB_iff.mpr ⟨rfl, ?_⟩
  refine nx_to [.ow (wellO (pullW (timeW (pullW q)))), .fr (.int i), .fr (.str p.s), .fr (.str o.s), .fr (num (len 12 k)), .fr (num (len 12 (sizeK k))), .fr (num (len 12 (sizeK k + e))), .un, .un] (by
    rw [← hz, ← len_add (by decide)]
    rfl) ?_
  generalize sizeK k = z at hk0
  have f2 : Fit 12 [(p, -z), (o, 12), (p, z + e)] := (fit2_of (ls := [(p, -z), (o, 12), (p, z + e)]) (show (3 : Nat) ≤ 600 by decide) fun x hx => by
    simp at hx
    rcases hx with rfl | rfl | rfl
    · show (-z).natAbs ≤ 100000; omega
    · show (12 : Int).natAbs ≤ 100000; decide
    · show (z + e).natAbs ≤ 100000; omega).fit
  have f1 : Fit 12 [(o, (12 : Int))] := (fit2_of (ls := [(o, (12 : Int))]) (show (1 : Nat) ≤ 600 by decide) fun x hx => by
    simp at hx
    subst hx
    show (12 : Int).natAbs ≤ 100000; decide).fit
  refine ⟨len 12 z, rfl, trivial, ?_⟩
  refine ⟨(p, -len 12 z), rfl, trivial, ?_⟩
  refine ⟨(o, len 12 12), by show [_, _] = [_, num (len 12 12)]; rw [n12], trivial, ?_⟩
  refine ⟨(p, len 12 (z + e)), rfl, trivial, ?_⟩
  refine ⟨(12, [(p, -z), (o, 12), (p, z + e)]), ?_, f2, ?_⟩
  · show [D.lst [.tup [.str p.s, num (-len 12 z), P1, P1], .tup [.str o.s, num (len 12 12), P1, P1], .tup [.str p.s, num (len 12 (z + e)), P1, P1]]] = _
    rw [len_neg]
    rfl
  refine ⟨((12, [(p, -z), (o, 12), (p, z + e)]), true, false), rfl, ⟨f2, ?_, ?_⟩, ?_⟩
  · show true = !fwd (red _)
    rw [kept_red hpo hk0.1 (by omega)]
    simp [fwd]
    omega
  · show false = !fwd (Cy _)
    rw [kept_ever hpo hk0.1 (by omega)]
    rfl
  refine ob_iff.mpr ⟨_, rfl, ?_⟩
  refine ⟨(o, len 12 12), by show [_, _] = [_, num (len 12 12)]; rw [n12], trivial, ?_⟩
  refine ⟨(12, [(o, 12)]), rfl, f1, ?_⟩
  refine ⟨((12, [(o, 12)]), false, false), rfl, ⟨f1, rfl, rfl⟩, ?_⟩
  exact ⟨rfl, rfl⟩
theorem d_l_not_kept (T : Tx K mg) : Gd P w K mg base "_law_not_kept" 17 [] ((cw_l_not_kept K).sp K) := by
  obtain ⟨fd, F⟩ := T.d_l_not_kept
  exact gd_of T.g_l_not_kept F.kp (F.bindsN fun _ _ _ _ _ _ us hl => match us, hl with | [_], _ => rfl) (ok_l_not_kept T F)
end
end W86
end
section
set_option Elab.async false
set_option linter.all false
set_option maxRecDepth 100000
set_option maxHeartbeats 1000000
set_option exponentiation.threshold 100000
/-! PN: what is drawn, what is split; what told flows share. -/
namespace W86
open PySem PySem.Spec PyProof.Rows L2 Evl DL
theorem fixK_le (kind : Int) {k : Int} (h : k.natAbs ≤ 60) : (fixK kind k).natAbs ≤ 60 := by
  unfold fixK
  split
  · exact h
  · split
    · decide
    · omega
theorem drawnN_le (letters kind : Int) : ∀ (n : Nat) (q : Well), ∀ x ∈ (drawnN letters kind n q).1, x.2.natAbs ≤ 60
  | 0, q, x, hx => by cases hx
  | n + 1, q, x, hx => by
    have hx : x ∈ (drawn1 q letters kind).1 :: (drawnN letters kind n (drawn1 q letters kind).2).1 := hx
    rcases List.mem_cons.mp hx with rfl | hx
    · exact fixK_le kind (timeK_le q)
    · exact drawnN_le letters kind n _ x hx
theorem drawnV_ok {q : Well} {l m k : Int} (hm : 0 ≤ m) : (drawnV q l m k).1.length ≤ m.toNat + 1 ∧ (k ≠ 2 → (drawnV q l m k).1.length ≤ m.toNat) ∧ (∀ x ∈ (drawnV q l m k).1, x.2.natAbs ≤ 60) ∧ (drawnV q l m k).2.2.length = q.2.length := by
  have hp := pullV_lt q (show 0 < m + 1 by omega)
  have hp0 := pullV_nn q (show 0 < m + 1 by omega)
  obtain ⟨n, hn⟩ : ∃ n, (pullV q (m + 1)).toNat = n := ⟨_, rfl⟩
  have h1 := drawnN_len l k n (pullW q)
  have h2 := drawnN_le l k n (pullW q)
  unfold drawnV
  rw [hn]
  split
  · next hk =>
    refine ⟨?_, fun z => absurd hk z, fun x hx => ?_, h1.2⟩
    · simp only [List.length_append, List.length_cons, List.length_nil, List.length_take, List.length_drop]
      have := h1.1
      omega
    · rcases List.mem_append.mp hx with hx | hx
      · rcases List.mem_append.mp hx with hx | hx
        · exact h2 x (List.mem_of_mem_take hx)
        · rw [List.mem_singleton] at hx
          subst hx
          show (-3 : Int).natAbs ≤ 60
          decide
      · exact h2 x (List.mem_of_mem_drop hx)
  · exact ⟨by have := h1.1; omega, fun _ => by have := h1.1; omega, h2, h1.2⟩
theorem red_pair (p : Pt) (t : Int) : red [(p, t), (p, -t)] = [] := red_inv1 (p, t)
theorem splitP_ok (l : Int) (pl sp : Nat) (q : Well) : red (splitP l pl sp q).1 = [] ∧ (splitP l pl sp q).1.length ≤ 2 ∧ (∀ x ∈ (splitP l pl sp q).1, x.2.natAbs ≤ 60) ∧ (splitP l pl sp q).2.2.length = q.2.length := by
  unfold splitP
  split
  · refine ⟨red_pair _ _, Nat.le_refl _, fun x hx => ?_, rfl⟩
    have := timeK_le (pullW q)
    simp at hx
    rcases hx with rfl | rfl
    · exact this
    · show (-timeK (pullW q)).natAbs ≤ 60; omega
  · exact ⟨rfl, Nat.zero_le _, (fun x hx => by cases hx), rfl⟩
theorem splitF_ok (l : Int) (pl : Nat) {B : Nat} : ∀ (ls : List Lk) (sp : Nat) (q : Well), (∀ x ∈ ls, x.2.natAbs ≤ B) →
    red (splitF l pl sp q ls).1 = red ls ∧ (splitF l pl sp q ls).1.length ≤ 4 * ls.length + 2 ∧ (∀ x ∈ (splitF l pl sp q ls).1, x.2.natAbs ≤ B + 60) ∧ (splitF l pl sp q ls).2.2.length = q.2.length
  | [], sp, q, _ => by
    obtain ⟨h1, h2, h3, h4⟩ := splitP_ok l pl sp q
    exact ⟨h1, h2, fun x hx => Nat.le_trans (h3 x hx) (by omega), h4⟩
  | y :: r, sp, q, h => by
    obtain ⟨h1, h2, h3, h4⟩ := splitP_ok l pl sp q
    have ih := splitF_ok l pl (B := B) r (sp + 1) (timeW (splitP l pl sp q).2) fun x hx => h x (List.mem_cons_of_mem _ hx)
    obtain ⟨i1, i2, i3, i4⟩ := ih
    have hy := h y List.mem_cons_self
    have ht := timeK_le (splitP l pl sp q).2
    unfold splitF
    generalize timeK (splitP l pl sp q).2 = t at ht
    refine ⟨?_, ?_, fun x hx => ?_, i4.trans h4⟩
    · show red ((splitP l pl sp q).1 ++ [(y.1, t), (y.1, y.2 + -t)] ++ (splitF l pl (sp + 1) (timeW (splitP l pl sp q).2) r).1) = _
      have e1 : red ((splitP l pl sp q).1 ++ [(y.1, t), (y.1, y.2 + -t)]) = red ([] ++ [y]) := red_congr (h1.trans rfl) (by
        rw [red_two, show t + (y.2 + -t) = y.2 by omega])
      exact red_congr e1 i1
    · simp only [List.length_append, List.length_cons, List.length_nil]
      omega
    · rcases List.mem_append.mp hx with hx | hx
      · rcases List.mem_append.mp hx with hx | hx
        · have := h3 x hx; omega
        · simp at hx
          rcases hx with rfl | rfl
          · show t.natAbs ≤ B + 60; omega
          · show (y.2 + -t).natAbs ≤ B + 60; omega
      · exact i3 x hx
theorem splitV_ok {q : Well} {ls : List Lk} {l : Int} (h : ∀ x ∈ ls, x.2.natAbs ≤ 60) : red (splitV q ls l).1 = red ls ∧ (splitV q ls l).1.length ≤ 4 * ls.length + 2 ∧ (∀ x ∈ (splitV q ls l).1, x.2.natAbs ≤ 120) ∧ (splitV q ls l).2.2.length = q.2.length := splitF_ok l _ (B := 60) ls 0 (pullW q) h
/-! ### told flows -/
theorem unit_perm (S : Nat) {u w : List Lk} (h : u.Perm w) : unitOf S u = unitOf S w := by
  unfold unitOf
  refine h.foldl_eq' (fun x _ y _ z => ?_) 1
  show Nat.lcm (Nat.lcm z _) _ = Nat.lcm (Nat.lcm z _) _
  rw [Nat.lcm_assoc, Nat.lcm_assoc, Nat.lcm_comm (len S x.2).den]
theorem any_perm {f : Lk → Bool} {u w : List Lk} (h : u.Perm w) : u.any f = w.any f := by
  rw [Bool.eq_iff_iff, List.any_eq_true, List.any_eq_true]
  exact ⟨fun ⟨x, hx, e⟩ => ⟨x, h.mem_iff.mp hx, e⟩, fun ⟨x, hx, e⟩ => ⟨x, h.mem_iff.mpr hx, e⟩⟩
theorem told_perm (S : Nat) {u w : List Lk} (h : u.Perm w) : toldD S u = toldD S w := by
  unfold toldD far
  rw [fwd_perm h, unit_perm S h, h.length_eq, any_perm h]
theorem shadow_app (p : Pt) (u w : List Lk) : shadow p (u ++ w) = shadow p u + shadow p w := by
  unfold shadow
  rw [List.map_append, List.sum_append]
theorem shadow_und (p : Pt) : ∀ u : List Lk, shadow p (u.reverse.map inv) = - shadow p u
  | [] => rfl
  | x :: u => by
    rw [List.reverse_cons, List.map_append, shadow_app, shadow_und p u, shadow_cons]
    show _ + shadow p [inv x] = _
    rw [shadow_cons]
    show _ + ((if x.1 = p then -x.2 else 0) + 0) = _
    split <;> omega
theorem shadow_due (p : Pt) (u w : List Lk) : shadow p (u ++ w ++ u.reverse.map inv) = shadow p w := by
  rw [shadow_app, shadow_app, shadow_und]
  omega
end W86
end
section
set_option Elab.async false
set_option linter.all false
set_option maxRecDepth 100000
set_option maxHeartbeats 400000
set_option exponentiation.threshold 100000
/-! WY: others. -/
namespace W86
open PySem PySem.Spec PyProof.Rows L2 Evl DL
open He (ga ma)
open He5 (wf)
section
variable {P : Program} {w : World} {K : Fr} {mg : Str → Option Value} {base : Heap}
def cw_l_others (K : Fr) : Cw := ⟨Well × List Lk × Int, fun a => wellO a.1, fun a => [llsD 12 a.2.1, .int a.2.2], fun a => a.1.2.length ≤ 10000 ∧ (0 < a.2.2 ∧ a.2.2 ≤ 3) ∧ a.2.1.length ≤ 7 ∧ ∀ x ∈ a.2.1, x.2.natAbs ≤ 60,
  fun _ => .fr (.bl true), fun a => wellO (pullW (splitV a.1 a.2.1 a.2.2).2)⟩
theorem ok_l_others (T : Tx K mg) {fd : FuncData} (F : L2.FunD K a_l_others.name a_l_others.qual a_l_others.params a_l_others.body a_l_others.scope [] [] (ga K "_law_others") fd) : FnOk P w K mg base CX0 17 (ga K "_law_others") fd ["well", "links", "letters"] ((cw_l_others K).sp K) := by
  refine cw_ok F sc_l_others (fun a => rfl) fun cdv A outer s H E hr => ?_
  refine ⟨_, _, (pdss_cons (pds_set 3 (pd_call (d_l_row T) (hr.mono (by decide)) (pda_cons (pd_name 1) pda_nil)) sc_l_others.nd)
  (pdss_cons (pds_set 4 (pd_call (d_l_some_below T) (hr.mono (by decide)) (pda_cons (pd_call (d_l_reduced T) (hr.mono (by decide)) (pda_cons (pd_name 1) pda_nil)) pda_nil)) sc_l_others.nd)
  (pdss_cons (pds_set 5 (pd_call (d_l_some_below T) (hr.mono (by decide)) (pda_cons (pd_call (d_l_rounded T) (hr.mono (by decide)) (pda_cons (pd_name 1) pda_nil)) pda_nil)) sc_l_others.nd)
  (pdss_cons (pds_if (pdt_not (pdt_val (pd_call (d_l_said T) (hr.mono (by decide)) (pda_cons (pd_call (d_l_row T) (hr.mono (by decide)) (pda_cons (pd_callW 0 (d_l_split T) (hr.mono (by decide)) rfl (.inl rfl) (pda_cons (pd_name 1) (pda_cons (pd_name 2) pda_nil))) pda_nil)) (pda_cons (pd_name 4) (pda_cons (pd_name 5) pda_nil)))))) (pdss_one (pds_ret pd_bl)) pdss_nil)
  (pdss_cons (pds_set 6 (pd_call (d_turns_of T) (hr.mono (by decide)) (pda_cons (pd_name 3) pda_nil)) sc_l_others.nd)
  (pdss_cons (pds_if (PDW.pdt (pdw_or (pdt_not (pdt_val (pd_isB k_tup T.b_isinstance T.b_tuple (pd_name 6)))) (pdw_or1 (pdt_cmp (op_neD hr.units) vo_ne (pd_callB1 call_lenA vo_len T.b_len (pd_name 6)) (pd_callB (call_max2 rfl) vo_max2 T.b_max (pda_cons pd_int (pda_cons (pd_callB1 call_lenA vo_len T.b_len (pd_name 1)) pda_nil))) (nomark _))))) (pdss_one (pds_ret pd_bl)) pdss_nil)
  (pdss_cons (pds_for PassesOwn.never rfl (pdi_range1 T.b_range (pda_cons (pd_callB1 call_lenA vo_len T.b_len (pd_name 6)) pda_nil)) (pdg_name 7 sc_l_others.nd)
  (pdss_cons (pds_set 8 (pd_op op_addA vo_add (pd_slice sl_any vo_sl (pd_name 1) (pdo_some (pd_name 7)) pdo_none) (pd_slice sl_any vo_sl (pd_name 1) pdo_none (pdo_some (pd_name 7)))) sc_l_others.nd)
  (pdss_cons (pds_if (pdt_not (pdt_val (pd_call (d_l_is_links T) (hr.mono (by decide)) (pda_cons (pd_ix ix_seq vo_ix (pd_name 6) (pd_name 7) (fun _ _ => rfl)) (pda_cons (pd_name 8) pda_nil))))) (pdss_one (pds_ret pd_bl)) pdss_nil)
  (pdss_one (pds_if (pdt_not (pdt_val (pd_call (d_l_said T) (hr.mono (by decide)) (pda_cons (pd_ix ix_seq vo_ix (pd_name 6) (pd_name 7) (fun _ _ => rfl)) (pda_cons (pd_call (d_l_some_below T) (hr.mono (by decide)) (pda_cons (pd_call (d_l_reduced T) (hr.mono (by decide)) (pda_cons (pd_name 8) pda_nil)) pda_nil)) (pda_cons (pd_name 5) pda_nil)))))) (pdss_one (pds_ret pd_bl)) pdss_nil)))))
  (pdss_cons (pds_set 9 (pd_op op_addA vo_add pd_int (pd_callW 0 (d_l_pull T) (hr.mono (by decide)) rfl (.inl rfl) (pda_cons pd_int pda_nil))) sc_l_others.nd)
  (pdss_cons (pds_if (pdt_not (pdt_val (pd_call (d_l_said T) (hr.mono (by decide)) (pda_cons (pd_meth (m_Row_repeated T) (hr.mono (by decide)) (pd_name 3) (pda_cons (pd_name 9) pda_nil)) (pda_cons (pd_call (d_l_some_below T) (hr.mono (by decide)) (pda_cons (pd_call (d_l_reduced T) (hr.mono (by decide)) (pda_cons (pd_op op_mulA vo_mul (pd_name 1) (pd_name 9)) pda_nil)) pda_nil)) (pda_cons (pd_name 5) pda_nil)))))) (pdss_one (pds_ret pd_bl)) pdss_nil)
  (pdss_cons (pds_set 10 (pd_call (d_l_undone T) (hr.mono (by decide)) (pda_cons (pd_name 1) pda_nil)) sc_l_others.nd)
  (pdss_one (pds_ret (pd_call (d_l_said T) (hr.mono (by decide)) (pda_cons (pd_meth0 (m_Row_undone T) (hr.mono (by decide)) (pd_name 3)) (pda_cons (pd_call (d_l_some_below T) (hr.mono (by decide)) (pda_cons (pd_call (d_l_reduced T) (hr.mono (by decide)) (pda_cons (pd_name 10) pda_nil)) pda_nil)) (pda_cons (pd_call (d_l_some_below T) (hr.mono (by decide)) (pda_cons (pd_call (d_l_rounded T) (hr.mono (by decide)) (pda_cons (pd_name 10) pda_nil)) pda_nil)) pda_nil)))))))))))))))), ?_⟩
  rintro ⟨q, ls, l⟩ ⟨h0, ⟨h1, h2⟩, h3, h4⟩
  have h0 : q.2.length ≤ 10000 := h0
  have h1 : 0 < l := h1
  have h2 : l ≤ 3 := h2
  have h3 : ls.length ≤ 7 := h3
  have h4 : ∀ x ∈ ls, x.2.natAbs ≤ 60 := h4
  have ft : Fit 12 ls := (fit2_of (by omega) fun x hx => by have := h4 x hx; omega).fit
  obtain ⟨sl, hsl⟩ : ∃ sl, splitV q ls l = sl := ⟨_, rfl⟩
  obtain ⟨p1, p2, p3, p4⟩ := splitV_ok (q := q) (l := l) h4
  rw [hsl] at p1 p2 p3 p4
  have fs : Fit 12 sl.1 := (fit2_of (by omega) fun x hx => by have := p3 x hx; omega).fit
  refine ⟨(12, ls), rfl, ft, ?_⟩
  refine ⟨(12, ls), rfl, ft, ?_⟩
  refine ⟨(12, red ls), rfl, show (0 : Nat) < 12 by decide, ?_⟩
  refine ⟨(12, ls), rfl, ft, ?_⟩
  refine ⟨(12, Cy ls), rfl, show (0 : Nat) < 12 by decide, ?_⟩
  refine obB_iff.mpr ⟨rfl, ?_⟩
  refine nx_to [.ow (wellO q), .fr (llsD 12 ls), .fr (.int l), .ow (rowO K 12 ls), .fr (.bl (!fwd (red ls))), .fr (.bl (!fwd (Cy ls))), .un, .un, .un, .un, .un] rfl ?_
  refine ⟨⟨_, rfl⟩, (q, ls, l), rfl, rfl, ⟨h0, ⟨h1, h2⟩, show ls.length ≤ 20 by omega, fun x hx => by have := h4 x hx; omega⟩, ?_⟩
  refine ⟨(12, sl.1), by rw [← hsl]; rfl, fs, ?_⟩
  refine ⟨((12, sl.1), !fwd (red ls), !fwd (Cy ls)), rfl, ⟨fs, by rw [← p1], by rw [← Cy_red p1]⟩, ?_⟩
  refine ⟨(12, ls), rfl, show ls.length ≤ 600 by omega, ?_⟩
  refine obB_iff.mpr ⟨rfl, ?_⟩
  refine nx_to [.ow (wellO sl.2), .fr (llsD 12 ls), .fr (.int l), .fr (rowD K 12 ls), .fr (.bl (!fwd (red ls))), .fr (.bl (!fwd (Cy ls))), .fr (.tup ((turnsL ls).map (rowD K 12))), .un, .un, .un, .un] (by rw [← hsl]; rfl) ?_
  have tl : (turnsL ls).length = if ls.length = 0 then 1 else ls.length := by
    unfold turnsL
    split
    · rfl
    · rw [List.length_map, List.length_range]
  have lm : (ls.map (llD 12)).length = ls.length := List.length_map _
  refine iteF' (fun z => ?_) ?_
  · rw [eqI, List.length_map, lm, tl] at z
    have z : ¬ ((((if ls.length = 0 then 1 else ls.length) : Nat) : Int) = if (ls.length : Int) > 1 then (ls.length : Int) else 1) := by simpa using z
    apply z
    split <;> split <;> omega
  refine ⟨show (((turnsL ls).map (rowD K 12)).length : Int) ≤ 100000 ∧ (-100000 : Int) ≤ ((turnsL ls).map (rowD K 12)).length by rw [List.length_map, tl]; split <;> omega, ?_⟩
  refine forD_is (g := dgName true 7) (rng 0 (turnsL ls).length) [.ow (wellO sl.2), .fr (llsD 12 ls), .fr (.int l), .fr (rowD K 12 ls), .fr (.bl (!fwd (red ls))), .fr (.bl (!fwd (Cy ls))), .fr (.tup ((turnsL ls).map (rowD K 12))), .un, .un, .un, .un] rfl (by show rng 0 (((turnsL ls).map (rowD K 12)).length : Int).toNat = _; rw [List.length_map]; rfl) ?_
  refine forD_rng (fun i ρ => ∃ (s7 s8 : Sl), ρ = [.ow (wellO sl.2), .fr (llsD 12 ls), .fr (.int l), .fr (rowD K 12 ls), .fr (.bl (!fwd (red ls))), .fr (.bl (!fwd (Cy ls))), .fr (.tup ((turnsL ls).map (rowD K 12))), s7, s8, .un, .un]) ⟨.un, .un, rfl⟩ ?_ ?_
  · rintro i ρ hi ⟨s7, s8, rfl⟩ nx hnx
    have hi' : i < (turnsL ls).length := hi
    have hi : i ≤ ls.length := by
      rw [tl] at hi'
      split at hi' <;> omega
    have ez : (0 : Int) + (i : Int) = (i : Int) := Int.zero_add _
    have c1 : DL.cutD (ls.map (llD 12)) (some ((0 : Int) + (i : Int))) none = (ls.drop i).map (llD 12) := by rw [ez, cutFrom (by omega), List.map_drop]
    have c2 : DL.cutD (ls.map (llD 12)) none (some ((0 : Int) + (i : Int))) = (ls.take i).map (llD 12) := by rw [ez, cutTo (by omega), List.map_take]
    have tt : (turnsL ls)[i]? = some (turn ls i) := by
      unfold turnsL
      split
      · next h =>
        have : ls = [] := List.length_eq_zero_iff.mp h
        subst this
        rw [tl] at hi'
        have : i = 0 := by simp at hi'; omega
        subst this
        rfl
      · next h =>
        rw [tl, if_neg h] at hi'
        rw [List.getElem?_map, List.getElem?_range hi']
        rfl
    have g1 : atI ((turnsL ls).map (rowD K 12)) ((0 : Int) + (i : Int)) = some (rowD K 12 (turn ls i)) := by
      rw [ez]
      exact atI_nat' (by rw [List.getElem?_map, tt]; rfl)
    have tn : (turn ls i).length = ls.length := by
      show (ls.drop i ++ ls.take i).length = _
      rw [List.length_append, List.length_drop, List.length_take]
      omega
    have fi : Fit 12 (turn ls i) := (fit2_of (by omega) fun x hx => by
      have hx : x ∈ ls.drop i ++ ls.take i := hx
      have : x ∈ ls := by
        rcases List.mem_append.mp hx with hx | hx
        · exact List.mem_of_mem_drop hx
        · exact List.mem_of_mem_take hx
      have := h4 x this
      omega).fit
    have pc : (Cy (turn ls i)).Perm (Cy ls) := by
      have := Cy_turn (ls.drop i) (ls.take i)
      rwa [List.take_append_drop] at this
    have ea : D.lst (DL.cutD (ls.map (llD 12)) (some ((0 : Int) + (i : Int))) none ++ DL.cutD (ls.map (llD 12)) none (some ((0 : Int) + (i : Int)))) = llsD 12 (turn ls i) := by
      rw [c1, c2, ← List.map_append]
      rfl
    refine ⟨show (DL.cutD (ls.map (llD 12)) (some ((0 : Int) + (i : Int))) none).length + (DL.cutD (ls.map (llD 12)) none (some ((0 : Int) + (i : Int)))).length ≤ 100000 by rw [c1, c2, List.length_map, List.length_map, List.length_drop, List.length_take]; omega, ?_⟩
    repeat refine ob_iff.mpr ⟨_, rfl, ?_⟩
    refine ob_iff.mpr ⟨_, g1, ?_⟩
    refine ⟨(12, turn ls i), by show [_, _] = [_, llsD 12 (turn ls i)]; rw [← ea]; rfl, show (turn ls i).length ≤ 600 by omega, ?_⟩
    repeat refine ob_iff.mpr ⟨_, rfl, ?_⟩
    refine ob_iff.mpr ⟨_, g1, ?_⟩
    refine ⟨(12, turn ls i), by show [_] = [llsD 12 (turn ls i)]; rw [← ea]; rfl, fi, ?_⟩
    refine ⟨(12, red (turn ls i)), rfl, show (0 : Nat) < 12 by decide, ?_⟩
    refine ⟨((12, turn ls i), !fwd (red (turn ls i)), !fwd (Cy ls)), rfl, ⟨fi, rfl, by rw [← fwd_perm pc]⟩, ?_⟩
    exact hnx _ ⟨_, _, rfl⟩
  · rintro ρ ⟨s7, s8, rfl⟩
    obtain ⟨m, hm⟩ : ∃ m : Nat, pullV sl.2 3 = (m : Int) := ⟨_, (Int.toNat_of_nonneg (pullV_nn _ (by decide))).symm⟩
    have hm3 : m < 3 := by
      have := pullV_lt sl.2 (show (0 : Int) < 3 by decide)
      omega
    have hw : sl.2.2.length ≤ 10000 := by omega
    refine ⟨⟨_, rfl⟩, (sl.2, 3), rfl, rfl, ⟨show (0 : Int) < 3 by decide, show sl.2.2.length ≤ 100000 by omega⟩, ?_⟩
    refine obB_iff.mpr ⟨rfl, ?_⟩
    refine nx_to [.ow (wellO (pullW sl.2)), .fr (llsD 12 ls), .fr (.int l), .fr (rowD K 12 ls), .fr (.bl (!fwd (red ls))), .fr (.bl (!fwd (Cy ls))), .fr (.tup ((turnsL ls).map (rowD K 12))), s7, s8, .fr (.int ((1 + m : Nat) : Int)), .un] (by
      rw [show (((1 + m : Nat) : Nat) : Int) = 1 + pullV sl.2 3 by rw [hm]; omega]
      rfl) ?_
    have rl : (rep (1 + m) ls).length = (1 + m) * ls.length := by
      show (List.replicate (1 + m) ls).flatten.length = _
      rw [List.length_flatten, List.map_replicate, List.sum_replicate_nat]
    have rle : (1 + m) * ls.length ≤ 3 * 7 := Nat.mul_le_mul (by omega) h3
    have rle' : ls.length * (1 + m) ≤ 21 := by rw [Nat.mul_comm]; exact rle
    have fr : Fit 12 (rep (1 + m) ls) := (fit2_of (by omega) fun x hx => by
      have hx : x ∈ (List.replicate (1 + m) ls).flatten := hx
      obtain ⟨y, hy, hx⟩ := List.mem_flatten.mp hx
      rw [List.eq_of_mem_replicate hy] at hx
      have := h4 x hx
      omega).fit
    have rm : (List.replicate (1 + m) (ls.map (llD 12))).flatten = (rep (1 + m) ls).map (llD 12) := by
      show _ = ((List.replicate (1 + m) ls).flatten).map (llD 12)
      rw [List.map_flatten, List.map_replicate]
    have ul : (ls.reverse.map inv).length = ls.length := by rw [List.length_map, List.length_reverse]
    have fu : Fit 12 (ls.reverse.map inv) := (fit2_of (by omega) fun x hx => by
      obtain ⟨y, hy, rfl⟩ := List.mem_map.mp hx
      have := h4 y (List.mem_reverse.mp hy)
      show (-y.2).natAbs ≤ 100000
      omega).fit
    refine ⟨⟨_, _, rfl, rfl⟩, (12, ls, 1 + m), rfl, ⟨show 1 ≤ 1 + m by omega, show 1 + m ≤ 100 by omega, show ls.length * (1 + m) ≤ 600 by omega, show ls.length ≤ 600 by omega⟩, ?_⟩
    refine ⟨show (0 : Int) ≤ ((1 + m : Nat) : Int) by omega, show ((1 + m : Nat) : Int) ≤ 100000 by omega, show (ls.map (llD 12)).length * (((1 + m : Nat) : Int)).toNat ≤ 100000 by rw [lm, Int.toNat_natCast]; omega, ?_⟩
    refine ⟨(12, rep (1 + m) ls), by show [D.lst (List.replicate (((1 + m : Nat) : Int)).toNat (ls.map (llD 12))).flatten] = _; rw [Int.toNat_natCast, rm]; rfl, fr, ?_⟩
    refine ⟨(12, red (rep (1 + m) ls)), rfl, show (0 : Nat) < 12 by decide, ?_⟩
    refine ⟨((12, rep (1 + m) ls), !fwd (red (rep (1 + m) ls)), !fwd (Cy ls)), rfl, ⟨fr, rfl, by rw [← Cy_rep ls (1 + m) (by omega)]⟩, ?_⟩
    refine ⟨(12, ls), rfl, show ls.length ≤ 600 by omega, ?_⟩
    refine ⟨⟨_, _, rfl, rfl⟩, (12, ls), rfl, show ls.length ≤ 600 by omega, ?_⟩
    refine ⟨(12, ls.reverse.map inv), rfl, fu, ?_⟩
    refine ⟨(12, red (ls.reverse.map inv)), rfl, show (0 : Nat) < 12 by decide, ?_⟩
    refine ⟨(12, ls.reverse.map inv), rfl, fu, ?_⟩
    refine ⟨(12, Cy (ls.reverse.map inv)), rfl, show (0 : Nat) < 12 by decide, ?_⟩
    refine ⟨((12, ls.reverse.map inv), !fwd (red (ls.reverse.map inv)), !fwd (Cy (ls.reverse.map inv))), rfl, ⟨fu, rfl, rfl⟩, ?_⟩
    rw [← hsl]
    exact ⟨rfl, rfl⟩
theorem d_l_others (T : Tx K mg) : Gd P w K mg base "_law_others" 17 [] ((cw_l_others K).sp K) := by
  obtain ⟨fd, F⟩ := T.d_l_others
  exact gd_of T.g_l_others F.kp (F.bindsN fun _ _ _ _ _ _ us hl => match us, hl with | [_, _, _], _ => rfl) (ok_l_others T F)
end
end W86
end
section
set_option Elab.async false
set_option linter.all false
set_option maxRecDepth 100000
set_option maxHeartbeats 1000000
set_option exponentiation.threshold 100000
/-! PO: what flows of drawn rows are. -/
namespace W86
open PySem PySem.Spec PyProof.Rows L2 Evl DL
theorem dens_dvd (S : Nat) : ∀ (ls : List Lk) (m : Nat), m ∣ ls.foldl (fun u l => Nat.lcm u (len S l.2).den) m ∧ ∀ x ∈ ls, (len S x.2).den ∣ ls.foldl (fun u l => Nat.lcm u (len S l.2).den) m
  | [], m => ⟨Nat.dvd_refl _, (fun x hx => by cases hx)⟩
  | l :: ls, m => by
    obtain ⟨h1, h2⟩ := dens_dvd S ls (Nat.lcm m (len S l.2).den)
    refine ⟨Nat.dvd_trans (Nat.dvd_lcm_left _ _) h1, fun x hx => ?_⟩
    rcases List.mem_cons.mp hx with rfl | hx
    · exact Nat.dvd_trans (Nat.dvd_lcm_right _ _) h1
    · exact h2 x hx
theorem cn_mul {u : Nat} {l : Lk} (hd : (len 12 l.2).den ∣ u) : l.2 * u = cn 12 u l * 12 := by
  obtain ⟨t, rfl⟩ := hd
  have e := len_eq_mul (S := 12) (by decide) l.2
  have e2 : l.2 * (((len 12 l.2).den * t : Nat) : Int) = ((len 12 l.2).num * t) * 12 := by
    rw [Int.natCast_mul, ← Int.mul_assoc, ← e]
    show (len 12 l.2).num * ((12 : Nat) : Int) * (t : Int) = _
    rw [Int.mul_assoc, Int.mul_comm ((12 : Nat) : Int), ← Int.mul_assoc]
    rfl
  unfold cn
  rw [e2]
  show _ = (len 12 l.2).num * (t : Int) * 12 / ((12 : Nat) : Int) * 12
  rw [show ((12 : Nat) : Int) = 12 from rfl, Int.mul_ediv_cancel _ (by decide)]
theorem cn_le {u : Nat} {l : Lk} (hu : u ≤ 12) (hd : (len 12 l.2).den ∣ u) (hk : l.2.natAbs ≤ 60) : (cn 12 u l).natAbs ≤ 60 := by
  have e := congrArg Int.natAbs (cn_mul hd)
  rw [Int.natAbs_mul, Int.natAbs_mul, Int.natAbs_natCast] at e
  have h1 : l.2.natAbs * u ≤ 60 * 12 := Nat.mul_le_mul hk hu
  rw [show (12 : Int).natAbs = 12 from rfl] at e
  omega
theorem stp_of {p u : Nat} {l : Lk} (hp : p ≤ 3) (hu : u ≤ 12) (hd : (len 12 l.2).den ∣ u) (hk : l.2.natAbs ≤ 60) : Stp p 12 u l := by
  have h1 := cn_le hu hd hk
  have h2 : p * (cn 12 u l).natAbs ≤ 3 * 60 := Nat.mul_le_mul hp h1
  exact ⟨szk_small (by omega), by omega, cn_mul hd, by omega, by omega⟩
theorem ms_of {X : M2} {Z : Z2 × Nat} {n : Nat} (h : Is X Z) (hz : Zs n Z) : Ms (n + 1) X := by
  obtain ⟨h0, h1, h2, h3, h4⟩ := h
  obtain ⟨a1, a2, a3, a4, a5⟩ := hz
  exact ⟨⟨is_sz h0 h1 a1 a5, is_sz h0 h2 a2 a5⟩, is_sz h0 h3 a3 a5, is_sz h0 h4 a4 a5⟩
theorem Ms.mono {n m : Nat} {X : M2} (h : Ms n X) (l : n ≤ m) : Ms m X := by
  have e : 2 ^ n ≤ 2 ^ m := Nat.pow_le_pow_right (by decide) l
  obtain ⟨⟨⟨a1, a2⟩, b1, b2⟩, ⟨c1, c2⟩, d1, d2⟩ := h
  exact ⟨⟨⟨Nat.lt_of_lt_of_le a1 e, Nat.lt_of_lt_of_le a2 e⟩, Nat.lt_of_lt_of_le b1 e, Nat.lt_of_lt_of_le b2 e⟩, ⟨Nat.lt_of_lt_of_le c1 e, Nat.lt_of_lt_of_le c2 e⟩, Nat.lt_of_lt_of_le d1 e, Nat.lt_of_lt_of_le d2 e⟩
theorem steps_of {p u : Nat} {l : Lk} (h : Stp p 12 u l) : Steps p 12 u l := by
  obtain ⟨h1, h2, h3, h4, h5⟩ := h
  refine ⟨h3, ?_, Nat.lt_of_lt_of_le h4 (by decide), h1, Ms.mono (ms_of (is_flow p l.1 (cn 12 u l)) (zs_flow (pt := l.1) h5)) (by decide)⟩
  rw [Int.natAbs_mul, Int.natAbs_natCast]
  omega
theorem runs_of {p u : Nat} : ∀ (ls : List Lk) (m : M2) (Z : Z2 × Nat) (k : Nat), Is m Z → Zs k Z → (∀ l ∈ ls, Stp p 12 u l) → k + ls.length * 205 ≤ 3400 → Runs p 12 u m ls
  | [], _, _, _, _, _, _, _ => trivial
  | l :: ls, m, Z, k, h, hz, hl, hk => by
    have hs := hl l List.mem_cons_self
    rw [List.length_cons, Nat.add_mul] at hk
    refine ⟨steps_of hs, Ms.mono (ms_of h hz) (by omega), ?_⟩
    exact runs_of ls _ _ (k + (200 + 4) + 1) (h.mul (is_flow p l.1 (cn 12 u l))) (hz.mul (zs_flow (pt := l.1) hs.2.2.2.2)) (fun x hx => hl x (List.mem_cons_of_mem _ hx)) (by omega)
theorem flown_ok {p u : Nat} {ls : List Lk} (hl : ls.length ≤ 15) (h : ∀ l ∈ ls, Stp p 12 u l) : Runs p 12 u I2 ls ∧ Is (flowOf p 12 u ls) (zflown p 12 u zI ls) ∧ Zs 3075 (zflown p 12 u zI ls) ∧ Ms 3900 (flowOf p 12 u ls) := by
  have e := zs_flown (p := p) (S := 12) (u := u) (n := 200) ls zI 0 zs_I fun l hx => (h l hx).2.2.2.2
  have i := is_flowOf p 12 u ls
  have z : Zs 3075 (zflown p 12 u zI ls) := Zs.mono e (by omega)
  exact ⟨runs_of ls I2 zI 0 is_I zs_I h (by omega), i, z, Ms.mono (ms_of i z) (by decide)⟩
theorem trace_eq {X Y : M2} {Z W : Z2 × Nat} (h : Is X Z) (h' : Is Y W) (e : tr X = tr Y) : (Z.1.1.1 + Z.1.2.2) * (W.2 : Int) = (W.1.1.1 + W.1.2.2) * (Z.2 : Int) := by
  obtain ⟨_, h1, _, _, h4⟩ := h
  obtain ⟨_, k1, _, _, k4⟩ := h'
  unfold tr at e
  have : (((Z.1.1.1 + Z.1.2.2) * (W.2 : Int) : Int) : Rat) = (((W.1.1.1 + W.1.2.2) * (Z.2 : Int) : Int) : Rat) := by
    rw [Rat.intCast_mul, Rat.intCast_mul, Rat.intCast_add, Rat.intCast_add, ← h1, ← h4, ← k1, ← k4, Rat.intCast_natCast, Rat.intCast_natCast]
    grind
  exact_mod_cast this
end W86
end
section
set_option Elab.async false
set_option linter.all false
set_option maxRecDepth 100000
set_option maxHeartbeats 400000
set_option exponentiation.threshold 100000
/-! WZ: within. -/
namespace W86
open PySem PySem.Spec PyProof.Rows L2 Evl DL
open He (ga ma)
open He5 (wf)
theorem iteB {c A B : Prop} [Decidable c] (h : c → B → A) (b : B) : if c then A else B := by
  by_cases hc : c
  · rw [if_pos hc]
    exact h hc b
  · rw [if_neg hc]
    exact b
theorem told_py (S : Nat) (ms : List Lk) : ∃ p, py (toldD S ms) = some p ∧ SeqAt.shaped p = true ∧ PyData.eqv p p = true := by
  unfold toldD
  split
  · exact ⟨_, rfl, by kernel_rfl, by decide +kernel⟩
  · split
    · exact ⟨_, rfl, by kernel_rfl, by decide +kernel⟩
    · refine ⟨_, rfl, by kernel_rfl, ?_⟩
      simp [PyData.eqv, PyData.eqvAll]
section
variable {P : Program} {w : World} {K : Fr} {mg : Str → Option Value} {base : Heap}
def cw_l_within (K : Fr) : Cw := ⟨Well × List Lk × List Lk × Int, fun a => wellO a.1, fun a => [llsD 12 a.2.1, llsD 12 a.2.2.1, .int a.2.2.2], fun a => a.1.2.length ≤ 10000 ∧ (0 < a.2.2.2 ∧ a.2.2.2 ≤ 3) ∧ (a.2.1.length ≤ 7 ∧ a.2.2.1.length ≤ 4) ∧ (∀ x ∈ a.2.1, x.2.natAbs ≤ 60) ∧ ∀ x ∈ a.2.2.1, x.2.natAbs ≤ 60,
  fun _ => .fr (.bl true), fun a => wellO (pullW a.1)⟩
theorem ok_l_within (T : Tx K mg) (O : TLO P K mg (ga K "TooLarge")) {fd : FuncData} (F : L2.FunD K a_l_within.name a_l_within.qual a_l_within.params a_l_within.body a_l_within.scope [] [] (ga K "_law_within") fd) : FnOk P w K mg base CX0 17 (ga K "_law_within") fd ["well", "links", "outer", "letters"] ((cw_l_within K).sp K) := by
  refine cw_ok F sc_l_within (fun a => rfl) fun cdv A outer s H E hr => ?_
  refine ⟨_, _, (pdss_cons (pds_set 4 (pd_call (d_l_row T) (hr.mono (by decide)) (pda_cons (pd_name 1) pda_nil)) sc_l_within.nd)
  (pdss_cons (pds_set 5 (pd_call (d_wrapped T) (hr.mono (by decide)) (pda_cons (pd_call (d_l_row T) (hr.mono (by decide)) (pda_cons (pd_name 2) pda_nil)) (pda_cons (pd_name 4) pda_nil))) sc_l_within.nd)
  (pdss_cons (pds_set 6 (pd_op op_addA vo_add (pd_op op_addA vo_add (pd_name 2) (pd_name 1)) (pd_call (d_l_undone T) (hr.mono (by decide)) (pda_cons (pd_name 2) pda_nil))) sc_l_within.nd)
  (pdss_cons (pds_set 7 (pd_call (d_l_rounded T) (hr.mono (by decide)) (pda_cons (pd_name 1) pda_nil)) sc_l_within.nd)
  (pdss_cons (pds_set 8 (pd_call (d_l_some_below T) (hr.mono (by decide)) (pda_cons (pd_name 7) pda_nil)) sc_l_within.nd)
  (pdss_cons (pds_if (PDW.pdt (pdw_or (pdt_not (pdt_val (pd_call (d_l_is_links T) (hr.mono (by decide)) (pda_cons (pd_name 5) (pda_cons (pd_name 6) pda_nil))))) (pdw_or1 (pdt_not (pdt_val (pd_call (d_l_said T) (hr.mono (by decide)) (pda_cons (pd_name 4) (pda_cons (pd_call (d_l_some_below T) (hr.mono (by decide)) (pda_cons (pd_call (d_l_reduced T) (hr.mono (by decide)) (pda_cons (pd_name 1) pda_nil)) pda_nil)) (pda_cons (pd_name 8) pda_nil))))))))) (pdss_one (pds_ret pd_bl)) pdss_nil)
  (pdss_cons (pds_if (pdt_not (pdt_val (pd_call (d_l_said T) (hr.mono (by decide)) (pda_cons (pd_name 5) (pda_cons (pd_call (d_l_some_below T) (hr.mono (by decide)) (pda_cons (pd_call (d_l_reduced T) (hr.mono (by decide)) (pda_cons (pd_name 6) pda_nil)) pda_nil)) (pda_cons (pd_name 8) pda_nil)))))) (pdss_one (pds_ret pd_bl)) pdss_nil)
  (pdss_cons (pds_if (PDW.pdt (pdw_and (pdt_val (pd_name 8)) (pdw_and1 (pdt_not (pdt_val (pd_call (d_l_some_below T) (hr.mono (by decide)) (pda_cons (pd_call (d_l_reduced T) (hr.mono (by decide)) (pda_cons (pd_name 1) pda_nil)) pda_nil))))))) (pdss_one (pds_ret pd_bl)) pdss_nil)
  (pdss_cons (pds_if (PDW.pdt (pdw_or (pdt_cmp (op_neD hr.units) vo_ne (pd_call (d_l_flows_told T O) (hr.mono (by decide)) (pda_cons (pd_name 4) pda_nil)) (pd_call (d_l_flows_due T) (hr.mono (by decide)) (pda_cons (pd_name 7) pda_nil)) (nomark _)) (pdw_or1 (pdt_cmp (op_neD hr.units) vo_ne (pd_call (d_l_flows_told T O) (hr.mono (by decide)) (pda_cons (pd_name 5) pda_nil)) (pd_call (d_l_flows_due T) (hr.mono (by decide)) (pda_cons (pd_name 7) pda_nil)) (nomark _))))) (pdss_one (pds_ret pd_bl)) pdss_nil)
  (pdss_cons (pds_for PassesOwn.never rfl (pdi_str (pd_slice sl_str vo_slT pd_str pdo_none (pdo_some (pd_name 3)))) (pdg_name 9 sc_l_within.nd)
  (pdss_cons (pds_set 10 (pd_tup (pda_cons pd_int (pda_cons pd_int pda_nil))) sc_l_within.nd)
  (pdss_cons (pds_for PassesOwn.never rfl (pdi_seq (pd_name 1)) (pdg_name 11 sc_l_within.nd)
  (pdss_one (pds_if (pdt_cmp (op_eqD hr.units) vo_eq (pd_ix ix_seq vo_ix (pd_name 11) pd_int (fun _ _ => rfl)) (pd_name 9) (nomark _)) (pdss_one (pds_set 10 (pd_call (d_l_add T) (hr.mono (by decide)) (pda_cons (pd_name 10) (pda_cons (pd_ix ix_seq vo_ix (pd_name 11) pd_int (fun _ _ => rfl)) pda_nil))) sc_l_within.nd)) pdss_nil)))
  (pdss_one (pds_if (PDW.pdt (pdw_or (pdt_not (pdt_val (pd_call (d_l_is_link T) (hr.mono (by decide)) (pda_cons (pd_meth (m_Row_shadow T) (hr.mono (by decide)) (pd_name 5) (pda_cons (pd_name 9) pda_nil)) (pda_cons (pd_call (d_l_true T) (hr.mono (by decide)) (pda_cons (pd_name 9) (pda_cons (pd_name 10) pda_nil))) pda_nil))))) (pdw_or1 (pdt_ownNe (m_Link___eq__ T) (hr.mono (by decide)) T.ne_Link (pd_meth (m_Row_shadow T) (hr.mono (by decide)) (pd_name 4) (pda_cons (pd_name 9) pda_nil)) (pd_meth (m_Row_shadow T) (hr.mono (by decide)) (pd_name 5) (pda_cons (pd_name 9) pda_nil)) (nomark _))))) (pdss_one (pds_ret pd_bl)) pdss_nil)))))
  (pdss_cons (pds_set 12 (pd_make (mk_Flows T) (hr.mono (by decide)) (pda_cons (pd_call (d_l_unit T) (hr.mono (by decide)) (pda_cons (pd_name 6) pda_nil)) (pda_cons (pd_callW 0 (d_l_pull T) (hr.mono (by decide)) rfl (.inl rfl) (pda_cons pd_int pda_nil)) pda_nil))) sc_l_within.nd)
  (pdss_cons (pds_set 13 (pd_call (d_l_flown T) (hr.mono (by decide)) (pda_cons (pd_name 1) (pda_cons (pd_fld T.f_Flows_unit (pd_name 12)) (pda_cons (pd_fld T.f_Flows_power (pd_name 12)) pda_nil)))) sc_l_within.nd)
  (pdss_cons (pds_set 14 (pd_call (d_l_flown T) (hr.mono (by decide)) (pda_cons (pd_name 6) (pda_cons (pd_fld T.f_Flows_unit (pd_name 12)) (pda_cons (pd_fld T.f_Flows_power (pd_name 12)) pda_nil)))) sc_l_within.nd)
  (pdss_cons (pds_if (PDW.pdt (pdw_or (pdt_not (pdt_val (pd_call (d_l_is_matrix T) (hr.mono (by decide)) (pda_cons (pd_callO (c_Flows T) (hr.mono (by decide)) (pd_name 12) (pda_cons (pd_name 4) pda_nil)) (pda_cons (pd_name 13) pda_nil))))) (pdw_or1 (pdt_not (pdt_val (pd_call (d_l_is_matrix T) (hr.mono (by decide)) (pda_cons (pd_callO (c_Flows T) (hr.mono (by decide)) (pd_name 12) (pda_cons (pd_name 5) pda_nil)) (pda_cons (pd_name 14) pda_nil)))))))) (pdss_one (pds_ret pd_bl)) pdss_nil)
  (pdss_one (pds_ret (pd_cmp (op_eqD hr.units) vo_eq (pd_op op_mulA vo_mul (pd_op op_addA vo_add (pd_ix ix_seq vo_ix (pd_ix ix_seq vo_ix (pd_ix ix_seq vo_ix (pd_name 13) pd_int (fun _ _ => rfl)) pd_int (fun _ _ => rfl)) pd_int (fun _ _ => rfl)) (pd_ix ix_seq vo_ix (pd_ix ix_seq vo_ix (pd_ix ix_seq vo_ix (pd_name 13) pd_int (fun _ _ => rfl)) pd_int (fun _ _ => rfl)) pd_int (fun _ _ => rfl))) (pd_ix ix_seq vo_ix (pd_name 14) pd_int (fun _ _ => rfl))) (pd_op op_mulA vo_mul (pd_op op_addA vo_add (pd_ix ix_seq vo_ix (pd_ix ix_seq vo_ix (pd_ix ix_seq vo_ix (pd_name 14) pd_int (fun _ _ => rfl)) pd_int (fun _ _ => rfl)) pd_int (fun _ _ => rfl)) (pd_ix ix_seq vo_ix (pd_ix ix_seq vo_ix (pd_ix ix_seq vo_ix (pd_name 14) pd_int (fun _ _ => rfl)) pd_int (fun _ _ => rfl)) pd_int (fun _ _ => rfl))) (pd_ix ix_seq vo_ix (pd_name 13) pd_int (fun _ _ => rfl))) (nomark _)))))))))))))))))), ?_⟩
  rintro ⟨q, ls, us, l⟩ ⟨h0, ⟨h1, h2⟩, ⟨h3, h4⟩, h5, h6⟩
  have h0 : q.2.length ≤ 10000 := h0
  have h1 : 0 < l := h1
  have h2 : l ≤ 3 := h2
  have h3 : ls.length ≤ 7 := h3
  have h4 : us.length ≤ 4 := h4
  have h5 : ∀ x ∈ ls, x.2.natAbs ≤ 60 := h5
  have h6 : ∀ x ∈ us, x.2.natAbs ≤ 60 := h6
  have ft : Fit2 12 ls := fit2_of (by omega) fun x hx => by have := h5 x hx; omega
  have fu : Fit2 12 us := fit2_of (by omega) fun x hx => by have := h6 x hx; omega
  obtain ⟨du, hdu⟩ : ∃ du, us ++ ls ++ us.reverse.map inv = du := ⟨_, rfl⟩
  have dl : du.length ≤ 15 := by
    rw [← hdu]
    simp only [List.length_append, List.length_map, List.length_reverse]
    omega
  have dk : ∀ x ∈ du, x.2.natAbs ≤ 60 := by
    intro x hx
    rw [← hdu] at hx
    rcases List.mem_append.mp hx with hx | hx
    · rcases List.mem_append.mp hx with hx | hx
      · exact h6 x hx
      · exact h5 x hx
    · obtain ⟨y, hy, rfl⟩ := List.mem_map.mp hx
      have := h6 y (List.mem_reverse.mp hy)
      show (-y.2).natAbs ≤ 60
      omega
  have fd2 : Fit2 12 du := fit2_of (by omega) fun x hx => by have := dk x hx; omega
  have pc : (Cy du).Perm (Cy ls) := by
    rw [← hdu]
    exact Cy_outer us ls
  have lmu : (us.map (llD 12)).length = us.length := List.length_map _
  have lml : (ls.map (llD 12)).length = ls.length := List.length_map _
  refine ⟨(12, ls), rfl, ft.fit, ?_⟩
  refine ⟨(12, us), rfl, fu.fit, ?_⟩
  refine ⟨(12, us, ls), rfl, show us.length + ls.length + us.length ≤ 600 by omega, ?_⟩
  refine ⟨show (us.map (llD 12)).length + (ls.map (llD 12)).length ≤ 100000 by rw [lmu, lml]; omega, ?_⟩
  refine ⟨(12, us), rfl, show us.length ≤ 600 by omega, ?_⟩
  refine ⟨show (us.map (llD 12) ++ ls.map (llD 12)).length + ((us.reverse.map inv).map (llD 12)).length ≤ 100000 by simp only [List.length_append, List.length_map, List.length_reverse]; omega, ?_⟩
  refine ⟨(12, ls), rfl, ft.fit, ?_⟩
  refine ⟨(12, Cy ls), rfl, show (0 : Nat) < 12 by decide, ?_⟩
  refine obB_iff.mpr ⟨rfl, ?_⟩
  refine nx_to [.ow (wellO q), .fr (llsD 12 ls), .fr (llsD 12 us), .fr (.int l), .fr (rowD K 12 ls), .ow (rowO K 12 du), .ow (.lst (du.map (llD 12))), .fr (llsD 12 (Cy ls)), .fr (.bl (!fwd (Cy ls))), .un, .un, .un, .un, .un, .un] (by
    rw [← hdu, List.map_append, List.map_append]
    rfl) ?_
  refine ⟨(12, du), rfl, show du.length ≤ 600 by omega, ?_⟩
  refine ⟨(12, ls), rfl, ft.fit, ?_⟩
  refine ⟨(12, red ls), rfl, show (0 : Nat) < 12 by decide, ?_⟩
  refine ⟨((12, ls), !fwd (red ls), !fwd (Cy ls)), rfl, ⟨ft.fit, rfl, rfl⟩, ?_⟩
  refine ⟨(12, du), rfl, fd2.fit, ?_⟩
  refine ⟨(12, red du), rfl, show (0 : Nat) < 12 by decide, ?_⟩
  refine ⟨((12, du), !fwd (red du), !fwd (Cy ls)), rfl, ⟨fd2.fit, rfl, by rw [← fwd_perm pc]⟩, ?_⟩
  refine iteB (fun hc k => ?_) ?_
  · have hc : (!fwd (Cy ls)) = true := hc
    have hf : fwd (red ls) = false := by
      cases e : fwd (red ls) with
      | false => rfl
      | true => rw [Cy_fwd ls e] at hc; cases hc
    refine ⟨(12, ls), rfl, ft.fit, ?_⟩
    refine ⟨(12, red ls), rfl, show (0 : Nat) < 12 by decide, ?_⟩
    refine iteF' (fun z => ?_) ?_
    · have z : (!(!fwd (red ls))) = true := z
      rw [hf] at z
      cases z
    · exact k
  have fm : Fit2 12 (Cy ls) := by
    obtain ⟨a1, a2, a3, a4⟩ := ft
    exact ⟨a1, a2, Nat.lt_of_le_of_lt (rounded_wt ls) a3, Nat.le_trans (rounded_le ls) a4⟩
  obtain ⟨pt, hp1, hp2, hp3⟩ := told_py 12 (Cy ls)
  have hp4 : py (toldD 12 (Cy du)) = some pt := by rw [told_perm 12 pc]; exact hp1
  refine ⟨(12, ls), rfl, ft, ?_⟩
  refine ⟨(12, Cy ls), rfl, fm, ?_⟩
  refine ob_iff.mpr ⟨_, rfl, ob_iff.mpr ⟨_, rfl, ob_iff.mpr ⟨pt, hp1, ob_iff.mpr ⟨pt, hp1, obB_iff.mpr ⟨by rw [hp2]; rfl, ?_⟩⟩⟩⟩⟩
  refine iteF' (fun z => ?_) ?_
  · have z : (!PyData.eqv pt pt) = true := z
    rw [hp3] at z
    cases z
  refine ⟨(12, du), rfl, fd2, ?_⟩
  refine ⟨(12, Cy ls), rfl, fm, ?_⟩
  refine ob_iff.mpr ⟨_, rfl, ob_iff.mpr ⟨_, rfl, ob_iff.mpr ⟨pt, hp4, ob_iff.mpr ⟨pt, hp1, obB_iff.mpr ⟨by rw [hp2]; rfl, ?_⟩⟩⟩⟩⟩
  refine iteF' (fun z => ?_) ?_
  · have z : (!PyData.eqv pt pt) = true := z
    rw [hp3] at z
    cases z
  obtain ⟨ps, eps⟩ : ∃ ps : List Pt, chars (cutS ("abc" : Str) none (some l)) = ps.map fun p => D.str p.s := by
    have : l = 1 ∨ l = 2 ∨ l = 3 := by omega
    rcases this with rfl | rfl | rfl
    · refine ⟨[.a], ?_⟩
      kernel_rfl
    · refine ⟨[.a, .b], ?_⟩
      kernel_rfl
    · refine ⟨[.a, .b, .c], ?_⟩
      kernel_rfl
  refine ⟨by decide, ?_⟩
  refine forD_is (g := dgName true 9) (ps.map fun p => D.str p.s) [.ow (wellO q), .fr (llsD 12 ls), .fr (llsD 12 us), .fr (.int l), .fr (rowD K 12 ls), .fr (rowD K 12 du), .fr (llsD 12 du), .fr (llsD 12 (Cy ls)), .fr (.bl (!fwd (Cy ls))), .un, .un, .un, .un, .un, .un] rfl eps ?_
  refine forD_ind (f := fun p : Pt => D.str p.s) (fun _ ρ => ∃ (s9 s10 s11 : Sl), ρ = [.ow (wellO q), .fr (llsD 12 ls), .fr (llsD 12 us), .fr (.int l), .fr (rowD K 12 ls), .fr (rowD K 12 du), .fr (llsD 12 du), .fr (llsD 12 (Cy ls)), .fr (.bl (!fwd (Cy ls))), s9, s10, s11, .un, .un, .un]) ⟨.un, .un, .un, rfl⟩ ?_ ?_
  · rintro p r ρ ⟨s9, s10, s11, rfl⟩ nx hnx
    have lw : wt ls ≤ 420 := by
      have := wt_le ls h5
      omega
    refine forD_is (g := dgName true 11) (ls.map (llD 12)) [.ow (wellO q), .fr (llsD 12 ls), .fr (llsD 12 us), .fr (.int l), .fr (rowD K 12 ls), .fr (rowD K 12 du), .fr (llsD 12 du), .fr (llsD 12 (Cy ls)), .fr (.bl (!fwd (Cy ls))), .fr (.str p.s), .fr (num (len 12 0)), s11, .un, .un, .un] (by rw [n0]; rfl) rfl ?_
    refine forD_ind (f := llD 12) (fun r ρ => ∃ (t : Int) (s11 : Sl), ρ = [.ow (wellO q), .fr (llsD 12 ls), .fr (llsD 12 us), .fr (.int l), .fr (rowD K 12 ls), .fr (rowD K 12 du), .fr (llsD 12 du), .fr (llsD 12 (Cy ls)), .fr (.bl (!fwd (Cy ls))), .fr (.str p.s), .fr (num (len 12 t)), s11, .un, .un, .un] ∧ t + shadow p r = shadow p ls ∧ t.natAbs + wt r ≤ wt ls) ⟨0, s11, rfl, Int.zero_add _, by omega⟩ ?_ ?_
    · rintro x r2 ρ ⟨t, s11, rfl, e1, e2⟩ nx2 hn2
      rw [wt_cons] at e2
      rw [shadow_cons] at e1
      refine obB_iff.mpr ⟨rfl, ?_⟩
      refine obB_iff.mpr ⟨shP x.1 p, ?_⟩
      refine ite2 (fun hp => ?_) (fun hp => ?_)
      · have hp : x.1 = p := of_decide_eq_true ((eqP x.1 p).symm.trans hp)
        rw [if_pos hp] at e1
        refine ⟨(len 12 t, len 12 x.2), rfl, ⟨(szk_small (by omega)).sz, (szk_small (by omega)).sz⟩, ?_⟩
        refine hn2 _ ⟨t + x.2, .fr (llD 12 x), ?_, by omega, by omega⟩
        rw [← len_add (by decide)]
        rfl
      · have hp : x.1 ≠ p := fun z => hp ((eqP x.1 p).trans (decide_eq_true z))
        rw [if_neg hp] at e1
        refine hn2 _ ⟨t, .fr (llD 12 x), rfl, by omega, by omega⟩
    · rintro ρ ⟨t, s11, rfl, e1, e2⟩
      have e1 : t + 0 = shadow p ls := e1
      have e3 : shadow p du = shadow p ls := by
        rw [← hdu]
        exact shadow_due p us ls
      have e4 : t = shadow p du := by omega
      refine ⟨⟨_, _, rfl, rfl⟩, (12, du, p), rfl, fd2.fit, ?_⟩
      refine ⟨(p, len 12 t), rfl, trivial, ?_⟩
      refine ⟨(12, (p, shadow p du)), by rw [← e4]; rfl, trivial, ?_⟩
      refine ⟨⟨_, _, rfl, rfl⟩, (12, ls, p), rfl, ft.fit, ?_⟩
      refine ⟨⟨_, _, rfl, rfl⟩, (12, du, p), rfl, fd2.fit, ?_⟩
      refine ⟨⟨⟨_, _, rfl⟩, ⟨_, _, rfl⟩⟩, (12, (p, shadow p ls), (p, shadow p du)), rfl, show (0 : Nat) < 12 by decide, _, rfl, ?_⟩
      refine iteF' (fun z => ?_) ?_
      · have z : (!decide ((p, shadow p ls) = (p, shadow p du))) = true := z
        rw [e3] at z
        simp at z
      · exact hnx _ ⟨_, _, _, rfl⟩
  · rintro ρ ⟨s9, s10, s11, rfl⟩
    obtain ⟨m, hm⟩ : ∃ m : Nat, pullV q 4 = (m : Int) := ⟨_, (Int.toNat_of_nonneg (pullV_nn _ (by decide))).symm⟩
    have hm3 : m ≤ 3 := by
      have := pullV_lt q (show (0 : Int) < 4 by decide)
      omega
    obtain ⟨u, hu⟩ : ∃ u, unitOf 12 du = u := ⟨_, rfl⟩
    have hup : 0 < u := by rw [← hu]; exact unitOf_pos (by decide) du
    have hul : u ≤ 12 := by rw [← hu]; exact unitOf_le (by decide) du
    have dv := (dens_dvd 12 du 1).2
    have dv : ∀ x ∈ du, (len 12 x.2).den ∣ u := by
      intro x hx
      rw [← hu]
      exact dv x hx
    have st : ∀ x ∈ du, Stp m 12 u x := fun x hx => stp_of hm3 hul (dv x hx) (dk x hx)
    have lsub : ∀ x ∈ ls, x ∈ du := fun x hx => by
      rw [← hdu]
      exact List.mem_append_left _ (List.mem_append_right _ hx)
    have usub : ∀ x ∈ us, x ∈ du := fun x hx => by
      rw [← hdu]
      exact List.mem_append_left _ (List.mem_append_left _ hx)
    have sl : ∀ x ∈ ls, Stp m 12 u x := fun x hx => st x (lsub x hx)
    obtain ⟨r1, i1, z1, m1⟩ := flown_ok (p := m) (u := u) (show ls.length ≤ 15 by omega) sl
    obtain ⟨r2, i2, z2, m2⟩ := flown_ok (p := m) (u := u) dl st
    have te := trace_eq i1 i2 (by
      rw [← hdu]
      exact (tr_outer (by decide) us ls fun x hx => (st x (usub x hx)).2.2.1).symm)
    obtain ⟨Z1, hZ1⟩ : ∃ Z, zflown m 12 u zI ls = Z := ⟨_, rfl⟩
    obtain ⟨Z2, hZ2⟩ : ∃ Z, zflown m 12 u zI du = Z := ⟨_, rfl⟩
    rw [hZ1] at i1 z1 te
    rw [hZ2] at i2 z2 te
    refine ⟨(12, du), rfl, ⟨show (0 : Nat) < 12 by decide, show (12 : Nat) < 2 ^ 64 by decide⟩, ?_⟩
    refine ⟨⟨_, rfl⟩, (q, 4), rfl, rfl, ⟨show (0 : Int) < 4 by decide, show q.2.length ≤ 100000 by omega⟩, ?_⟩
    refine ⟨(u, m), rfl, ?_, show 1 ≤ u by omega, rfl, ?_⟩
    · show [D.int (unitOf 12 du : Nat), D.int (pullV q 4)] = [.int (u : Nat), .int (m : Nat)]
      rw [hu, hm]
    refine obB_iff.mpr ⟨rfl, ?_⟩
    refine nx_to [.ow (wellO (pullW q)), .fr (llsD 12 ls), .fr (llsD 12 us), .fr (.int l), .fr (rowD K 12 ls), .fr (rowD K 12 du), .fr (llsD 12 du), .fr (llsD 12 (Cy ls)), .fr (.bl (!fwd (Cy ls))), s9, s10, s11, .ow (flO K u m), .un, .un] rfl ?_
    refine ⟨⟨rfl, rfl⟩, ⟨rfl, rfl⟩, (m, 12, u, ls), rfl, ⟨show m < 100 by omega, show u < 2 ^ 64 by omega, show ls.length ≤ 20 by omega, sl⟩, ?_⟩
    refine ⟨⟨rfl, rfl⟩, ⟨rfl, rfl⟩, (m, 12, u, du), rfl, ⟨show m < 100 by omega, show u < 2 ^ 64 by omega, show du.length ≤ 20 by omega, st⟩, ?_⟩
    refine obB_iff.mpr ⟨rfl, ?_⟩
    refine nx_to [.ow (wellO (pullW q)), .fr (llsD 12 ls), .fr (llsD 12 us), .fr (.int l), .fr (rowD K 12 ls), .fr (rowD K 12 du), .fr (llsD 12 du), .fr (llsD 12 (Cy ls)), .fr (.bl (!fwd (Cy ls))), s9, s10, s11, .ow (flO K u m), .fr (.tup [zmD Z1.1, .int Z1.2]), .fr (.tup [zmD Z2.1, .int Z2.2])] (by rw [← hZ1, ← hZ2]; rfl) ?_
    have u900 : u < 2 ^ 900 := Nat.lt_of_le_of_lt hul (Nat.lt_of_lt_of_le (show 12 < 2 ^ 4 by decide) (Nat.pow_le_pow_right (by decide) (by decide)))
    have m100 : m < 2 ^ 100 := by omega
    refine ⟨⟨_, _, rfl⟩, (u, m, 12, ls), rfl, ⟨u900, m100, show ls.length ≤ 600 by omega, r1⟩, ?_⟩
    refine ⟨(flowOf m 12 u ls, Z1.1, Z1.2), rfl, ⟨i1, m1, z1.mono (by decide)⟩, ?_⟩
    refine ⟨⟨_, _, rfl⟩, (u, m, 12, du), rfl, ⟨u900, m100, show du.length ≤ 600 by omega, r2⟩, ?_⟩
    refine ⟨(flowOf m 12 u du, Z2.1, Z2.2), rfl, ⟨i2, m2, z2.mono (by decide)⟩, ?_⟩
    have sz : ∀ {Z : W86.Z2 × Nat}, Zs 3075 Z → (Z.1.1.1 + Z.1.2.2).natAbs < 2 ^ 3080 ∧ ((Z.2 : Nat) : Int).natAbs < 2 ^ 3080 := by
      intro Z ⟨a1, a2, a3, a4, a5⟩
      have e : (2 : Nat) ^ 3080 = 2 ^ 3075 * 32 := by rw [show 3080 = 3075 + 5 from rfl, Nat.pow_add]
      have e0 : 0 < (2 : Nat) ^ 3075 := Nat.pow_pos (by decide)
      rw [e]
      generalize (2 : Nat) ^ 3075 = b at *
      exact ⟨by omega, by omega⟩
    refine ⟨mulZ 3080 3080 (sz z1).1 (sz z2).2, mulZ 3080 3080 (sz z2).1 (sz z1).2, ?_⟩
    refine ⟨?_, rfl⟩
    show Res.fr (.bl true) = Res.fr (.bl (PyData.eqv (.int ((Z1.1.1.1 + Z1.1.2.2) * (Z2.2 : Int))) (.int ((Z2.1.1.1 + Z2.1.2.2) * (Z1.2 : Int)))))
    rw [eqI, te]
    simp
theorem d_l_within (T : Tx K mg) (O : TLO P K mg (ga K "TooLarge")) : Gd P w K mg base "_law_within" 17 [] ((cw_l_within K).sp K) := by
  obtain ⟨fd, F⟩ := T.d_l_within
  exact gd_of T.g_l_within F.kp (F.bindsN fun _ _ _ _ _ _ us hl => match us, hl with | [_, _, _, _], _ => rfl) (ok_l_within T O F)
end
end W86
end
section
set_option Elab.async false
set_option linter.all false
set_option maxRecDepth 100000
set_option maxHeartbeats 400000
set_option exponentiation.threshold 100000
/-! Wlaw: the law. -/
namespace W86
open PySem PySem.Spec PyProof.Rows L2 Evl DL
open He (ga ma)
open He5 (wf)
theorem wellL_len (ns : List Int) : ∀ (n i : Nat), (wellL ns n i).length ≤ 50 * n
  | 0, _ => Nat.le_refl _
  | n + 1, i => by
    have h := wellL_len ns n (i + 1)
    show ((if h : i < ns.length then wellA i ns[i] else []) ++ wellL ns n (i + 1)).length ≤ _
    rw [List.length_append]
    split
    · have : (wellA i ns[i]).length ≤ 50 := wellX_len i _
      omega
    · rw [List.length_nil]
      omega
section
variable {P : Program} {w : World} {K : Fr} {mg : Str → Option Value} {base : Heap}
def ct_law (K : Fr) : Ct := ⟨List Int, fun ns => [.rl (ns.map D.int)], fun ns => ns.length ≤ 63, fun _ => .fr (.bl true)⟩
theorem ok_law (T : Tx K mg) (O : TLO P K mg (ga K "TooLarge")) {fd : FuncData} (F : L2.FunD K a_law.name a_law.qual a_law.params a_law.body a_law.scope [] [] (ga K "law") fd) : FnOk P w K mg base CX0 18 (ga K "law") fd ["script"] ((ct_law K).sp K) := by
  refine ct_ok F sc_law (fun a => rfl) fun cdv A outer s H E hr => ?_
  refine ⟨_, _, (pdss_cons (pds_set 1 (pd_call (d_l_well T) (hr.mono (by decide)) (pda_cons (pd_name 0) pda_nil)) sc_law.nd)
  (pdss_cons (pds_set 2 (pd_ix ix_seq vo_ix (pd_lst (pda_cons pd_int (pda_cons pd_int (pda_cons pd_int (pda_cons pd_int pda_nil))))) (pd_callW 1 (d_l_pull T) (hr.mono (by decide)) rfl (.inl rfl) (pda_cons pd_int pda_nil)) (fun _ _ => rfl)) sc_law.nd)
  (pdss_cons (pds_set 3 (pd_callW 1 (d_l_drawn T) (hr.mono (by decide)) rfl (.inl rfl) (pda_cons (pd_name 2) (pda_cons pd_int (pda_cons (pd_callW 1 (d_l_pull T) (hr.mono (by decide)) rfl (.inl rfl) (pda_cons pd_int pda_nil)) pda_nil)))) sc_law.nd)
  (pdss_cons (pds_set 4 (pd_callW 1 (d_l_drawn T) (hr.mono (by decide)) rfl (.inl rfl) (pda_cons (pd_name 2) (pda_cons pd_int (pda_cons pd_int pda_nil)))) sc_law.nd)
  (pdss_cons (pds_if (pdt_not (pdt_val (pd_callW 1 (d_l_within T O) (hr.mono (by decide)) rfl (.inl rfl) (pda_cons (pd_name 3) (pda_cons (pd_name 4) (pda_cons (pd_name 2) pda_nil)))))) (pdss_one (pds_ret pd_bl)) pdss_nil)
  (pdss_cons (pds_if (pdt_not (pdt_val (pd_callW 1 (d_l_others T) (hr.mono (by decide)) rfl (.inl rfl) (pda_cons (pd_name 3) (pda_cons (pd_name 2) pda_nil))))) (pdss_one (pds_ret pd_bl)) pdss_nil)
  (pdss_one (pds_ret (pd_callW 1 (d_l_not_kept T) (hr.mono (by decide)) rfl (.inl rfl) pda_nil))))))))), ?_⟩
  rintro (ns : List Int) h
  have h : ns.length ≤ 63 := h
  have hl := wellL_len ns 63 0
  obtain ⟨q, hq⟩ : ∃ q, wellV ns = q := ⟨_, rfl⟩
  have hql : q.2.length ≤ 10000 := by
    rw [← hq]
    show (wellL ns 63 0).length ≤ 10000
    omega
  refine ⟨ns, rfl, h, ?_⟩
  refine obB_iff.mpr ⟨rfl, ?_⟩
  refine nx_to [.fr (.rl (ns.map D.int)), .ow (wellO q), .un, .un, .un] (by rw [← hq]; rfl) ?_
  have hb : 0 ≤ pullV q 4 ∧ pullV q 4 < 4 := ⟨pullV_nn _ (by decide), pullV_lt _ (by decide)⟩
  obtain ⟨L, ⟨hL1, hL2⟩, hx⟩ : ∃ L : Int, (0 < L ∧ L ≤ 3) ∧ atI [DL.D.int 2, .int 3, .int 2, .int 1] (pullV q 4) = some (.int L) := by
    have : pullV q 4 = 0 ∨ pullV q 4 = 1 ∨ pullV q 4 = 2 ∨ pullV q 4 = 3 := by omega
    rcases this with z | z | z | z
    · exact ⟨2, by decide, by rw [z]; rfl⟩
    · exact ⟨3, by decide, by rw [z]; rfl⟩
    · exact ⟨2, by decide, by rw [z]; rfl⟩
    · exact ⟨1, by decide, by rw [z]; rfl⟩
  refine ⟨⟨_, rfl⟩, (q, 4), rfl, rfl, ⟨show (0 : Int) < 4 by decide, show q.2.length ≤ 100000 by omega⟩, ?_⟩
  refine ob_iff.mpr ⟨_, rfl, ob_iff.mpr ⟨_, rfl, ob_iff.mpr ⟨_, hx, ?_⟩⟩⟩
  refine obB_iff.mpr ⟨rfl, ?_⟩
  refine nx_to [.fr (.rl (ns.map D.int)), .ow (wellO (pullW q)), .fr (.int L), .un, .un] rfl ?_
  obtain ⟨r, hr⟩ : ∃ r, drawnV (pullW (pullW q)) L 6 (pullV (pullW q) 3) = r := ⟨_, rfl⟩
  obtain ⟨d1, _, d2, d3⟩ := drawnV_ok (q := pullW (pullW q)) (l := L) (m := 6) (k := pullV (pullW q) 3) (by decide)
  rw [hr] at d1 d2 d3
  have d3 : r.2.2.length = q.2.length := d3
  refine ⟨⟨_, rfl⟩, ⟨_, rfl⟩, (pullW q, 3), rfl, rfl, ⟨show (0 : Int) < 3 by decide, show q.2.length ≤ 100000 by omega⟩, ?_⟩
  refine ⟨(pullW (pullW q), L, 6, pullV (pullW q) 3), rfl, rfl, ⟨hql, ⟨hL1, hL2⟩, show (0 : Int) ≤ 6 by decide, show (6 : Int) ≤ 20 by decide⟩, ?_⟩
  refine obB_iff.mpr ⟨rfl, ?_⟩
  refine nx_to [.fr (.rl (ns.map D.int)), .ow (wellO r.2), .fr (.int L), .ow (lsO r.1), .un] (by rw [← hr]; rfl) ?_
  obtain ⟨v, hv⟩ : ∃ v, drawnV r.2 L 4 1 = v := ⟨_, rfl⟩
  obtain ⟨_, b1, b2, b3⟩ := drawnV_ok (q := r.2) (l := L) (m := 4) (k := 1) (by decide)
  rw [hv] at b1 b2 b3
  have b1 := b1 (by decide)
  refine ⟨⟨_, rfl⟩, (r.2, L, 4, 1), rfl, rfl, ⟨show r.2.2.length ≤ 10000 by omega, ⟨hL1, hL2⟩, show (0 : Int) ≤ 4 by decide, show (4 : Int) ≤ 20 by decide⟩, ?_⟩
  refine obB_iff.mpr ⟨rfl, ?_⟩
  refine nx_to [.fr (.rl (ns.map D.int)), .ow (wellO v.2), .fr (.int L), .ow (lsO r.1), .ow (lsO v.1)] (by rw [← hv]; rfl) ?_
  have l7 : r.1.length ≤ 7 := d1
  have l4 : v.1.length ≤ 4 := b1
  refine ⟨⟨_, rfl⟩, (v.2, r.1, v.1, L), rfl, rfl, ⟨show v.2.2.length ≤ 10000 by omega, ⟨hL1, hL2⟩, ⟨l7, l4⟩, d2, b2⟩, ?_⟩
  obtain ⟨_, _, _, s4⟩ := splitV_ok (q := pullW v.2) (l := L) d2
  have s4 : (splitV (pullW v.2) r.1 L).2.2.length = v.2.2.length := s4
  refine ⟨⟨_, rfl⟩, (pullW v.2, r.1, L), rfl, rfl, ⟨show v.2.2.length ≤ 10000 by omega, ⟨hL1, hL2⟩, l7, d2⟩, ?_⟩
  refine ⟨⟨_, rfl⟩, pullW (splitV (pullW v.2) r.1 L).2, rfl, rfl, show (splitV (pullW v.2) r.1 L).2.2.length ≤ 10000 by omega, ?_⟩
  rfl
theorem d_law (T : Tx K mg) (O : TLO P K mg (ga K "TooLarge")) : Gd P w K mg base "law" 18 [] ((ct_law K).sp K) := by
  obtain ⟨fd, F⟩ := T.d_law
  exact gd_of T.g_law F.kp (F.bindsN fun _ _ _ _ _ _ us hl => match us, hl with | [_], _ => rfl) (ok_law T O F)
end
end W86
end
set_option Elab.async false
set_option linter.all false
set_option maxRecDepth 100000
set_option maxHeartbeats 0
/-! The law, joined with the head. -/
namespace HeadT
open PySem PySem.Spec PyProof.Rows L2
open W86 in
theorem facts {P : Program} {w : World} {K : PySem.W.Frag} {h : Heap} {mg : Str → Option Value} {f : Addr} (X : K.In h) (G : h.Ns mainGlobals mg) (hfa : mg ("law" : Str) = some (.ref f)) (c : ∀ p ∈ parts, p.ok K)
    (hF : P.main.file = PySem.Challenge.pw_trueruns_k86_whole_outer_rows_and_growin.main.file) (hS : P.main.scope = PySem.Challenge.pw_trueruns_k86_whole_outer_rows_and_growin.main.scope) :
    ∃ fd : FuncData, (∀ (s : Shared) (v : Value), BindsTo s fd ⟨[v], []⟩ [("script", v)]) ∧ ∀ base : Heap, K.In base → base.Ns mainGlobals mg → FnOk P w K mg base CX0 18 f fd ["script"] ((ct_law K).sp K) := by
  obtain ⟨z1, z2⟩ := DL.saysN c
  rw [← fn_eq, ← ex_eq] at z1
  rw [← cl_eq] at z2
  have T : Tx K mg := ⟨z1, h, X, G⟩
  have O := T.tlo (P := P) z2 hF hS
  obtain ⟨fd, F⟩ := T.d_law
  have e := hfa.symm.trans T.g_law
  cases e
  have b := FunD.bindsA (ps := ["script"]) F fun _ _ _ _ _ _ us hl => match us, hl with | [_], _ => rfl
  exact ⟨fd, fun s v => b s [v] rfl, fun base _ _ => ok_law T O F⟩
theorem call_ok {K : PySem.W.Frag} (H : Hp) (a : Addr) (ns : List Int) (hl : ns.length ≤ 63) (hS : SqL K H a (ns.map V.int)) : (W86.ct_law K).sp K [.ref a] H (fun v _ => v = .bl true) fun _ _ _ => False := by
  refine ⟨H, ns, Evl.Ex.refl H, ?_, hl, fun v H' F' _ _ _ _ r => ?_⟩
  · exact DL.RepL.cons (DL.rep_rl.mpr ⟨a, _, rfl, hS, DL.RepL.ints⟩) (DL.repL_nil.mpr rfl)
  · have r : DL.Rep K F' (.bl true) v := r
    exact DL.rep_bl.mp r
end HeadT
open PySem PySem.W PySem.Calls PyProof.Rows
theorem PySem.Challenge.cw_trueruns_k86_whole_outer_rows_and_growin_holds : PySem.Challenge.rw_trueruns_k86_whole_outer_rows_and_growin.Holds := by
  w_on; o_law
  refine HandSHeadRun.head_imp (r := HeadT.R) (q := HeadT.qv) (H := HeadT.hk) (ob := HeadT.ob) (M := 60000) (loose := HeadT.names) (d := HandSHeadRun.topDef HeadT.R.prog 143) (kwd := []) HeadT.ob_eq
    HeadT.run (by kernel_rfl) (by kernel_rfl) (by kernel_rfl) (by rfl) (by first | assumption | decide +kernel) (by decide +kernel) ⟨rfl, rfl, rfl, rfl, rfl, by decide +kernel⟩ ?hw ?hc
  case hw => w_witness2
  case hc =>
    refine L2.walk_ofE (l := PySem.Challenge.rw_trueruns_k86_whole_outer_rows_and_growin) (n := 63) (k := 18) (x := "script") (CX := L2.CX0) rfl (by decide) (by kernel_rfl) ⟨rfl, by decide, by decide⟩ ?F (fun _ _ _ _ z => z)
    intro w mg fa h Y G hmg0
    obtain ⟨K, KX, c⟩ := Y
    have hmg : mg ("law" : PySem.Str) = some (.ref fa) := by
      have e : (HandSHeadRun.topDef HeadT.R.prog 143).name = ("law" : PySem.Str) := by kernel_rfl
      rw [← e]
      exact hmg0
    obtain ⟨fd, hb, hF⟩ := HeadT.facts (P := (PySem.Challenge.rw_trueruns_k86_whole_outer_rows_and_growin).prog) (w := w) KX G hmg c rfl rfl
    exact ⟨K, fd, (W86.ct_law K).sp K, KX, hb, fun H a ns hl _ hS => HeadT.call_ok H a ns hl hS, hF⟩
