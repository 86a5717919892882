import PyProof.Rows.All
import Wide.All
import OpenK.AllK
import Wide.FinOn
import KE.KStateDown
import HandS.Base
import HandS.Call
import HandS.Ends
import HandS.More
import HandS.Words
import HandS.WordsExc
import HandS.Defaults
import HandS.Head0
import HandS.Head1
import HandS.Head2
import HandS.HeadEnd
import HandS.HeadHook1
import HandS.HeadHook2
import PySem.Challenge.RW_stepswatched_k10_steps_that_are_undone
import HandS.ForMost
import HandS.Deep
import HandS.Flow
import HandS.TupAny
import HandS.IsInst
import HandS.Codes
import KE.KDictPairs
import HandS.Sort
import HandS.Style
import HandS.ReCall
import HandS.BoundList
import KE.SortData
import KE.KItemsList
import HandS.ExcValue
import HandS.DictTup
import HandS.Conv
import KE.DataMinMax
import HandS.Comp
import HandS.SetFor
import HandS.Strs
import HandS.Iter
import HandS.HeadHook3
import HandS.Text
import HandS.SetKeys
import KE.GoesMore
import KE.GoesZip
import HandS.Zip
import KE.KDictZip
set_option Elab.async false
set_option linter.all false
set_option maxRecDepth 100000
set_option maxHeartbeats 0
set_option autoImplicit false
namespace Hd
open PySem PySem.Spec PyProof.Rows L2
def top (i : Nat) : Stmt := PySem.Challenge.pw_stepswatched_k10_steps_that_are_undone.main.body.getD i (.Pass ⟨0, 0, 0, 0⟩)
abbrev R : PySem.W.OpenRow := PySem.W.OpenLaw.row PySem.Challenge.rw_stepswatched_k10_steps_that_are_undone
abbrev s_is_number : Stmt := top 1
def d_is_number : He.DefD := ⟨("is_number", none), "is_number", "is_number", defArgs s_is_number, defBody s_is_number, defScope s_is_number, [], []⟩
abbrev s_frozen : Stmt := top 2
def d_frozen : He.DefD := ⟨("frozen", none), "frozen", "frozen", defArgs s_frozen, defBody s_frozen, defScope s_frozen, [], []⟩
abbrev s_undo_row : Stmt := top 4
def d_undo_row : He.DefD := ⟨("undo_row", none), "undo_row", "undo_row", defArgs s_undo_row, defBody s_undo_row, defScope s_undo_row, [], []⟩
abbrev s_undone : Stmt := top 5
def d_undone : He.DefD := ⟨("undone", none), "undone", "undone", defArgs s_undone, defBody s_undone, defScope s_undone, [], []⟩
abbrev s_undo_rows : Stmt := top 6
def d_undo_rows : He.DefD := ⟨("undo_rows", none), "undo_rows", "undo_rows", defArgs s_undo_rows, defBody s_undo_rows, defScope s_undo_rows, [], []⟩
abbrev s_back_by : Stmt := top 7
def d_back_by : He.DefD := ⟨("back_by", none), "back_by", "back_by", defArgs s_back_by, defBody s_back_by, defScope s_back_by, [], []⟩
abbrev s_size_of_state : Stmt := top 8
def d_size_of_state : He.DefD := ⟨("size_of_state", none), "size_of_state", "size_of_state", defArgs s_size_of_state, defBody s_size_of_state, defScope s_size_of_state, [], []⟩
abbrev s_size_of_row : Stmt := top 9
def d_size_of_row : He.DefD := ⟨("size_of_row", none), "size_of_row", "size_of_row", defArgs s_size_of_row, defBody s_size_of_row, defScope s_size_of_row, [], []⟩
abbrev s_sizes : Stmt := top 10
def d_sizes : He.DefD := ⟨("sizes", none), "sizes", "sizes", defArgs s_sizes, defBody s_sizes, defScope s_sizes, [], []⟩
abbrev s_is_row_for : Stmt := top 11
def d_is_row_for : He.DefD := ⟨("is_row_for", none), "is_row_for", "is_row_for", defArgs s_is_row_for, defBody s_is_row_for, defScope s_is_row_for, [], []⟩
abbrev s_untouched : Stmt := top 12
def d_untouched : He.DefD := ⟨("untouched", none), "untouched", "untouched", defArgs s_untouched, defBody s_untouched, defScope s_untouched, [], []⟩
abbrev s_worth : Stmt := top 14
def d_worth : He.DefD := ⟨("worth", none), "worth", "worth", defArgs s_worth, defBody s_worth, defScope s_worth, [], []⟩
abbrev s_op_at : Stmt := top 16
def d_op_at : He.DefD := ⟨("op_at", none), "op_at", "op_at", defArgs s_op_at, defBody s_op_at, defScope s_op_at, [], []⟩
abbrev s_first : Stmt := top 18
def d_first : He.DefD := ⟨("first", none), "first", "first", defArgs s_first, defBody s_first, defScope s_first, [], []⟩
abbrev s_is_over : Stmt := top 19
def d_is_over : He.DefD := ⟨("is_over", none), "is_over", "is_over", defArgs s_is_over, defBody s_is_over, defScope s_is_over, [], []⟩
abbrev s_variables_of : Stmt := top 20
def d_variables_of : He.DefD := ⟨("variables_of", none), "variables_of", "variables_of", defArgs s_variables_of, defBody s_variables_of, defScope s_variables_of, [], []⟩
abbrev s_with_variable : Stmt := top 21
def d_with_variable : He.DefD := ⟨("with_variable", none), "with_variable", "with_variable", defArgs s_with_variable, defBody s_with_variable, defScope s_with_variable, [], []⟩
abbrev s_given : Stmt := top 22
def d_given : He.DefD := ⟨("given", none), "given", "given", defArgs s_given, defBody s_given, defScope s_given, [], []⟩
abbrev s_called : Stmt := top 23
def d_called : He.DefD := ⟨("called", none), "called", "called", defArgs s_called, defBody s_called, defScope s_called, [], []⟩
abbrev s_step : Stmt := top 24
def d_step : He.DefD := ⟨("step", none), "step", "step", defArgs s_step, defBody s_step, defScope s_step, [], []⟩
abbrev s_run_of : Stmt := top 25
def d_run_of : He.DefD := ⟨("run_of", none), "run_of", "run_of", defArgs s_run_of, defBody s_run_of, defScope s_run_of, [], []⟩
abbrev s__law_draws : Stmt := top 27
def d__law_draws : He.DefD := ⟨("_law_draws", none), "_law_draws", "_law_draws", defArgs s__law_draws, defBody s__law_draws, defScope s__law_draws, [], []⟩
abbrev s__law_next : Stmt := top 28
def d__law_next : He.DefD := ⟨("_law_next", none), "_law_next", "_law_next", defArgs s__law_next, defBody s__law_next, defScope s__law_next, [], []⟩
abbrev s__law_program : Stmt := top 29
def d__law_program : He.DefD := ⟨("_law_program", none), "_law_program", "_law_program", defArgs s__law_program, defBody s__law_program, defScope s__law_program, [], []⟩
abbrev s__law_row : Stmt := top 30
def d__law_row : He.DefD := ⟨("_law_row", none), "_law_row", "_law_row", defArgs s__law_row, defBody s__law_row, defScope s__law_row, [], []⟩
abbrev s__law_size : Stmt := top 31
def d__law_size : He.DefD := ⟨("_law_size", none), "_law_size", "_law_size", defArgs s__law_size, defBody s__law_size, defScope s__law_size, [], []⟩
abbrev s__law_row_size : Stmt := top 32
def d__law_row_size : He.DefD := ⟨("_law_row_size", none), "_law_row_size", "_law_row_size", defArgs s__law_row_size, defBody s__law_row_size, defScope s__law_row_size, [], []⟩
abbrev s_law : Stmt := top 33
def d_law : He.DefD := ⟨("law", none), "law", "law", defArgs s_law, defBody s_law, defScope s_law, [], []⟩
def fn : List He.DefD := [d_is_number, d_frozen, d_undo_row, d_undone, d_undo_rows, d_back_by, d_size_of_state, d_size_of_row, d_sizes, d_is_row_for, d_untouched, d_worth, d_op_at, d_first, d_is_over, d_variables_of, d_with_variable, d_given, d_called, d_step, d_run_of, d__law_draws, d__law_next, d__law_program, d__law_row, d__law_size, d__law_row_size, d_law]
def fa : List He.Fa := [.glo "is_number", .glo "frozen", .glo "undo_row", .glo "undone", .glo "undo_rows", .glo "back_by", .glo "size_of_state", .glo "size_of_row", .glo "sizes", .glo "is_row_for", .glo "untouched", .glo "worth", .glo "op_at", .glo "first", .glo "is_over", .glo "variables_of", .glo "with_variable", .glo "given", .glo "called", .glo "step", .glo "run_of", .glo "_law_draws", .glo "_law_next", .glo "_law_program", .glo "_law_row", .glo "_law_size", .glo "_law_row_size", .glo "law", .free "abs", .free "bool", .free "dict", .free "int", .free "isinstance", .free "len", .free "list", .free "min", .free "range", .free "set", .free "sorted", .free "sum", .free "tuple", .free "zip"]
abbrev hk : PySem.W.Hook := He.hookD 4 fa fn
def ob (s : PySem.W.SharedT) : He.AlD := He.obsDG 4 fa fn (HandSHeadRun.getT s)
theorem ob_eq (s : PySem.W.SharedT) : ob s = hk.obs s.abs := He.obsDG_eq (HandSHeadRun.getT_eq s)
def names : List PySem.Str := ("is_number" : PySem.Str) :: ("frozen" : PySem.Str) :: ("undo_row" : PySem.Str) :: ("undone" : PySem.Str) :: ("undo_rows" : PySem.Str) :: ("back_by" : PySem.Str) :: ("size_of_state" : PySem.Str) :: ("size_of_row" : PySem.Str) :: ("sizes" : PySem.Str) :: ("is_row_for" : PySem.Str) :: ("untouched" : PySem.Str) :: ("worth" : PySem.Str) :: ("op_at" : PySem.Str) :: ("first" : PySem.Str) :: ("is_over" : PySem.Str) :: ("variables_of" : PySem.Str) :: ("with_variable" : PySem.Str) :: ("given" : PySem.Str) :: ("called" : PySem.Str) :: ("step" : PySem.Str) :: ("run_of" : PySem.Str) :: ("_law_draws" : PySem.Str) :: ("_law_next" : PySem.Str) :: ("_law_program" : PySem.Str) :: ("_law_row" : PySem.Str) :: ("_law_size" : PySem.Str) :: ("_law_row_size" : PySem.Str) :: []
theorem run (w : World) : HandSHeadRun.RunEq R (PySem.W.view R.prog [33]) hk ob 4000 names w := by
  intro os
  kernel_rfl
end Hd
/-! Fx0: values as data, environments with owned slots, the steps. -/
namespace Fx
open PySem PySem.Spec L2

abbrev D := PyData
/-- a slot's value: shared (never written again), owned by this frame alone, or lent by the caller -/
inductive Fl where
  | sh | own | lent
  deriving DecidableEq
abbrev En := List (Option (D × Fl))

def kD : Key → D
  | .inl i => .int i
  | .inr x => .str x

/-- a tuple that stands for ever, an exact one -/
def TupG (K : PySem.W.Frag) (G : Hp) (a : Addr) (xs : List V) : Prop :=
  (∃ o, G a = some (.frz o (.tup xs)) ∧ o.dict = none) ∨
    ∃ (o : Obj) (its : Array Value) (n : Nat), K.lookup a = some o ∧ o.cls = .type "tuple" ∧ o.dict = none ∧ o.data = .seq its n ∧ its.size ≤ sizeLine ∧ Vals xs its.toList
theorem TupG.sq {K : PySem.W.Frag} {G : Hp} {a : Addr} {xs : List V} (h : TupG K G a xs) : SqT K G a xs := by
  rcases h with ⟨o, h, _⟩ | ⟨o, its, n, h1, h2, _, h3⟩
  · exact .inl (.inr ⟨o, h⟩)
  · exact .inr ⟨o, its, n, h1, h2, h3⟩
theorem TupG.mono {K : PySem.W.Frag} {G G' : Hp} {a : Addr} {xs : List V} (e : Same G G') (h : TupG K G a xs) : TupG K G' a xs := by
  rcases h with ⟨o, h, d⟩ | h
  · exact .inl ⟨o, e _ _ h, d⟩
  · exact .inr h
mutual
inductive Rep (K : PySem.W.Frag) (G : Hp) : V → D → Prop
  | non : Rep K G .non .none
  | bl (b : Bool) : Rep K G (.bl b) (.bool b)
  | int (i : Int) : Rep K G (.int i) (.int i)
  | str (x : Str) : Rep K G (.str x) (.str x)
  | tup {a : Addr} {xs : List V} {ds : List D} : TupG K G a xs → Reps K G xs ds → Rep K G (.ref a) (.tuple ds)
  | lst {a : Addr} {xs : List V} {ds : List D} : SqL K G a xs → Reps K G xs ds → Rep K G (.ref a) (.list ds)
  | dct {a : Addr} {kvs : List (Key × V)} {es : List (D × D)} : Rd G a (.dK kvs) → RepKV K G kvs es → Rep K G (.ref a) (.dict es)
inductive Reps (K : PySem.W.Frag) (G : Hp) : List V → List D → Prop
  | nil : Reps K G [] []
  | cons {v : V} {d : D} {vs : List V} {ds : List D} : Rep K G v d → Reps K G vs ds → Reps K G (v :: vs) (d :: ds)
inductive RepKV (K : PySem.W.Frag) (G : Hp) : List (Key × V) → List (D × D) → Prop
  | nil : RepKV K G [] []
  | cons {k : Key} {v : V} {d : D} {r : List (Key × V)} {s : List (D × D)} : Rep K G v d → RepKV K G r s → RepKV K G ((k, v) :: r) ((kD k, d) :: s)
end
/-- a written object -/
inductive RepO (K : PySem.W.Frag) (G : Hp) : HO → D → Prop
  | lst {xs : List V} {ds : List D} : Reps K G xs ds → RepO K G (.lst xs) (.list ds)
  | dK {kvs : List (Key × V)} {es : List (D × D)} : RepKV K G kvs es → RepO K G (.dK kvs) (.dict es)

theorem seqT {K : PySem.W.Frag} {H H' : Hp} {a : Addr} {xs : List V} (e : Same H H') (h : SqT K H a xs) : SqT K H' a xs := by
  rcases h with (h | ⟨o, h⟩) | h
  · exact .inl (.inl (e _ _ h))
  · exact .inl (.inr ⟨o, e _ _ h⟩)
  · exact .inr h
theorem rdS {H H' : Hp} {a : Addr} {u : HO} (e : Same H H') (h : Rd H a u) : Rd H' a u := by
  rcases h with h | ⟨o, h⟩
  · exact .inl (e _ _ h)
  · exact .inr ⟨o, e _ _ h⟩
section
variable {K : PySem.W.Frag} {G G' H H' : Hp}
mutual
theorem Rep.mono (e : Same G G') : ∀ {v : V} {d : D}, Rep K G v d → Rep K G' v d
  | _, _, .non => .non
  | _, _, .bl b => .bl b
  | _, _, .int i => .int i
  | _, _, .str x => .str x
  | _, _, .tup h r => .tup (h.mono e) (Reps.mono e r)
  | _, _, .lst h r => .lst (e.seq h) (Reps.mono e r)
  | _, _, .dct h r => .dct (rdS e h) (RepKV.mono e r)
theorem Reps.mono (e : Same G G') : ∀ {v : List V} {d : List D}, Reps K G v d → Reps K G' v d
  | _, _, .nil => .nil
  | _, _, .cons h r => .cons (Rep.mono e h) (Reps.mono e r)
theorem RepKV.mono (e : Same G G') : ∀ {v : List (Key × V)} {d : List (D × D)}, RepKV K G v d → RepKV K G' v d
  | _, _, .nil => .nil
  | _, _, .cons h r => .cons (Rep.mono e h) (RepKV.mono e r)
end
theorem RepO.mono (e : Same G G') : ∀ {o : HO} {d : D}, RepO K G o d → RepO K G' o d
  | _, _, .lst r => .lst (r.mono e)
  | _, _, .dK r => .dK (r.mono e)
/-- an object that is shared from now on -/
theorem RepO.rep {o : HO} {d : D} {a : Addr} (h : RepO K G o d) (e : G a = some o) : Rep K G (.ref a) d := by
  cases h with
  | lst r => exact .lst (.inl (.inl e)) r
  | dK r => exact .dct (.inl e) r
theorem Reps.length : ∀ {vs : List V} {ds : List D}, Reps K G vs ds → vs.length = ds.length
  | _, _, .nil => rfl
  | _, _, .cons _ r => congrArg Nat.succ (Reps.length r)
theorem Reps.get : ∀ {vs : List V} {ds : List D} {i : Nat} {v : V}, Reps K G vs ds → vs[i]? = some v → ∃ d, ds[i]? = some d ∧ Rep K G v d
  | _, _, _, _, .nil, e => by simp at e
  | _, _, 0, _, .cons r _, e => by simp at e; subst e; exact ⟨_, rfl, r⟩
  | _, _, i + 1, v, .cons _ t, e => by
    obtain ⟨d, h1, h2⟩ := Reps.get (i := i) (v := v) t (by simpa using e)
    exact ⟨d, by simpa using h1, h2⟩
theorem Reps.get' : ∀ {vs : List V} {ds : List D} {i : Nat} {d : D}, Reps K G vs ds → ds[i]? = some d → ∃ v, vs[i]? = some v ∧ Rep K G v d
  | _, _, _, _, .nil, e => by simp at e
  | _, _, 0, _, .cons r _, e => by simp at e; subst e; exact ⟨_, rfl, r⟩
  | _, _, i + 1, v, .cons _ t, e => by
    obtain ⟨d, h1, h2⟩ := Reps.get' (i := i) (d := v) t (by simpa using e)
    exact ⟨d, by simpa using h1, h2⟩
theorem Reps.append : ∀ {vs ws : List V} {ds es : List D}, Reps K G vs ds → Reps K G ws es → Reps K G (vs ++ ws) (ds ++ es)
  | _, _, _, _, .nil, s => s
  | _, _, _, _, .cons h r, s => .cons h (Reps.append r s)
theorem Reps.take : ∀ {vs : List V} {ds : List D} (n : Nat), Reps K G vs ds → Reps K G (vs.take n) (ds.take n)
  | _, _, 0, _ => .nil
  | _, _, _ + 1, .nil => .nil
  | _, _, n + 1, .cons h r => .cons h (Reps.take n r)
theorem Reps.drop : ∀ {vs : List V} {ds : List D} (n : Nat), Reps K G vs ds → Reps K G (vs.drop n) (ds.drop n)
  | _, _, 0, h => h
  | _, _, _ + 1, .nil => .nil
  | _, _, n + 1, .cons _ r => Reps.drop n r
theorem Reps.set {v : V} {d : D} (h : Rep K G v d) : ∀ {vs : List V} {ds : List D} (i : Nat), Reps K G vs ds → Reps K G (vs.set i v) (ds.set i d)
  | _, _, _, .nil => .nil
  | _, _, 0, .cons _ r => .cons h r
  | _, _, i + 1, .cons q r => .cons q (Reps.set h i r)
theorem Reps.reverse : ∀ {vs : List V} {ds : List D}, Reps K G vs ds → Reps K G vs.reverse ds.reverse
  | _, _, .nil => .nil
  | _, _, .cons h r => by rw [List.reverse_cons, List.reverse_cons]; exact (Reps.reverse r).append (.cons h .nil)
theorem Reps.eraseIdx : ∀ {vs : List V} {ds : List D} (i : Nat), Reps K G vs ds → Reps K G (vs.eraseIdx i) (ds.eraseIdx i)
  | _, _, _, .nil => .nil
  | _, _, 0, .cons _ r => r
  | _, _, i + 1, .cons q r => .cons q (Reps.eraseIdx i r)
end

/-! ### environments over slots and heaps -/
/-- the addresses that this frame may write -/
def OwnA (en : En) (σ : St) (b : Addr) : Prop := ∃ (i : Nat) (d : D) (f : Fl), en[i]? = some (some (d, f)) ∧ f ≠ .sh ∧ σ[i]? = some (some (.ref b))

/-- G: what stands for ever; H: all that is tracked -/
structure SR (K : PySem.W.Frag) (G H : Hp) (en : En) (σ : St) : Prop where
  sub : Same G H
  len : en.length = σ.length
  shd : ∀ (i : Nat) (d : D), en[i]? = some (some (d, .sh)) → ∃ v, σ[i]? = some (some v) ∧ Rep K G v d
  own : ∀ (i : Nat) (d : D) (f : Fl), en[i]? = some (some (d, f)) → f ≠ .sh → ∃ a o, σ[i]? = some (some (.ref a)) ∧ G a = none ∧ H a = some o ∧ RepO K G o d
  sep : ∀ (i j : Nat) (d e : D) (f g : Fl) (a : Addr), en[i]? = some (some (d, f)) → f ≠ .sh → en[j]? = some (some (e, g)) → g ≠ .sh → σ[i]? = some (some (.ref a)) → σ[j]? = some (some (.ref a)) → i = j

/-- from (G, H) to (G', H'), O alone written -/
structure Ext (O : Addr → Prop) (G H G' H' : Hp) : Prop where
  g : Same G G'
  h : ∀ b o, H b = some o → ¬ O b → H' b = some o
  n : ∀ b o, H b = some o → ¬ O b → G b = none → G' b = none
  t : ∀ b, H' b = none → H b = none

section
variable {K : PySem.W.Frag} {O O1 O2 : Addr → Prop} {G H G1 H1 G2 H2 : Hp} {en en1 en2 : En} {σ σ1 σ2 : St}
theorem Ext.refl : Ext O G H G H := ⟨Same.refl _, fun _ _ e _ => e, fun _ _ _ _ e => e, fun _ e => e⟩
theorem Ext.trans (a : Ext O1 G H G1 H1) (b : Ext O2 G1 H1 G2 H2) (k : ∀ x, O2 x → O1 x ∨ H x = none) : Ext O1 G H G2 H2 := by
  have no : ∀ x o, H x = some o → ¬ O1 x → ¬ O2 x := fun x o e n q => by
    rcases k x q with z | z
    · exact n z
    · rw [z] at e; cases e
  exact ⟨a.g.trans b.g, fun x o e n => b.h x o (a.h x o e n) (no x o e n), fun x o e n g => b.n x o (a.h x o e n) (no x o e n) (a.n x o e n g), fun x e => a.t x (b.t x e)⟩
theorem Ext.weak (a : Ext O1 G H G1 H1) (k : ∀ x o, O1 x → H x = some o → O2 x) : Ext O2 G H G1 H1 :=
  ⟨a.g, fun x o e n => a.h x o e fun q => n (k x o q e), fun x o e n g => a.n x o e (fun q => n (k x o q e)) g, a.t⟩
theorem SR.there (S : SR K G H en σ) {b : Addr} (h : OwnA en σ b) : ∃ o, H b = some o ∧ G b = none := by
  obtain ⟨i, d, f, e, n, s⟩ := h
  obtain ⟨a, o, s', g, h', _⟩ := S.own i d f e n
  rw [s] at s'
  cases s'
  exact ⟨o, h', g⟩

/-- a step within an expression: the slots stand -/
structure Step (K : PySem.W.Frag) (en en' : En) (σ : St) (G H G' H' : Hp) : Prop where
  ext : Ext (OwnA en σ) G H G' H'
  sr : SR K G' H' en' σ
  own : ∀ b, OwnA en' σ b → OwnA en σ b
  lent : ∀ (i : Nat) (d : D), en[i]? = some (some (d, .lent)) → ∃ d', en'[i]? = some (some (d', .lent))
theorem Step.refl (S : SR K G H en σ) : Step K en en σ G H G H := ⟨Ext.refl, S, fun _ h => h, fun _ d e => ⟨d, e⟩⟩
theorem Step.trans (a : Step K en en1 σ G H G1 H1) (b : Step K en1 en2 σ G1 H1 G2 H2) : Step K en en2 σ G H G2 H2 :=
  ⟨a.ext.trans b.ext fun x h => .inl (a.own x h), b.sr, fun x h => a.own x (b.own x h), fun i d e => let ⟨d', e'⟩ := a.lent i d e; b.lent i d' e'⟩
/-- a step of statements -/
structure StepS (K : PySem.W.Frag) (en : En) (σ : St) (G H : Hp) (en' : En) (σ' : St) (G' H' : Hp) : Prop where
  ext : Ext (OwnA en σ) G H G' H'
  sr : SR K G' H' en' σ'
  own : ∀ b, OwnA en' σ' b → OwnA en σ b ∨ H b = none
  lent : ∀ (i : Nat) (d : D), en[i]? = some (some (d, .lent)) → (∃ d', en'[i]? = some (some (d', .lent))) ∧ σ'[i]? = σ[i]?
theorem StepS.refl (S : SR K G H en σ) : StepS K en σ G H en σ G H := ⟨Ext.refl, S, fun _ h => .inl h, fun _ d e => ⟨⟨d, e⟩, rfl⟩⟩
theorem Step.s (a : Step K en en1 σ G H G1 H1) : StepS K en σ G H en1 σ G1 H1 := ⟨a.ext, a.sr, fun b h => .inl (a.own b h), fun i d e => ⟨a.lent i d e, rfl⟩⟩
theorem StepS.trans (a : StepS K en σ G H en1 σ1 G1 H1) (b : StepS K en1 σ1 G1 H1 en2 σ2 G2 H2) : StepS K en σ G H en2 σ2 G2 H2 :=
  ⟨a.ext.trans b.ext a.own, b.sr, fun x h => by
    rcases b.own x h with q | q
    · exact a.own x q
    · exact .inr (a.ext.t x q), fun i d e => by
    obtain ⟨⟨d', e'⟩, s⟩ := a.lent i d e
    obtain ⟨l, s'⟩ := b.lent i d' e'
    exact ⟨l, s'.trans s⟩⟩

/-! ### what an expression hands back: shared, or (b) an object of nobody yet -/
def Res (K : PySem.W.Frag) (O : Addr → Prop) (H : Hp) (O' : Addr → Prop) (G' H' : Hp) (v : V) (d : D) (b : Bool) : Prop :=
  if b then ∃ a o, v = .ref a ∧ (H a = none ∨ O a) ∧ ¬ O' a ∧ H' a = some o ∧ G' a = none ∧ RepO K G' o d else Rep K G' v d
theorem Res.sh {O O' : Addr → Prop} {G' H' : Hp} {v : V} {d : D} (h : Rep K G' v d) : Res K O H O' G' H' v d false := h
theorem Res.new {O O' : Addr → Prop} {G' H' : Hp} {a : Addr} {o : HO} {d : D} (h1 : H a = none ∨ O a) (h2 : ¬ O' a) (h3 : H' a = some o) (h4 : G' a = none) (h5 : RepO K G' o d) : Res K O H O' G' H' (.ref a) d true :=
  ⟨a, o, rfl, h1, h2, h3, h4, h5⟩

/-- what is read of an operand -/
def Use (K : PySem.W.Frag) (G H : Hp) (v : V) (d : D) : Prop := Rep K G v d ∨ ∃ a o, v = .ref a ∧ H a = some o ∧ RepO K G o d
/-- an operand that waits: a shared value, a value (that may be nobody's), a slot that is read at the end -/
inductive Hd where
  | sv (d : D)
  | tv (d : D)
  | slot (i : Nat)
def peek (en : En) (i : Nat) : Option D := match en[i]? with
  | some (some (d, _)) => some d
  | _ => none
def Hd.late (en : En) : Hd → Option D
  | .sv d => some d
  | .tv d => some d
  | .slot i => peek en i
theorem peek_some {en : En} {i : Nat} {d : D} (h : peek en i = some d) : ∃ f, en[i]? = some (some (d, f)) := by
  unfold peek at h
  split at h
  · rename_i d' f q
    cases h
    exact ⟨f, q⟩
  · cases h
def lates (en : En) : List Hd → Option (List D)
  | [] => some []
  | h :: r => match h.late en, lates en r with
    | some d, some ds => some (d :: ds)
    | _, _ => none
def HoldR (K : PySem.W.Frag) (G H : Hp) (en : En) (σ : St) (v : V) : Hd → Prop
  | .sv d => Rep K G v d
  | .tv d => Rep K G v d ∨ ∃ a o, v = .ref a ∧ H a = some o ∧ G a = none ∧ ¬ OwnA en σ a ∧ RepO K G o d
  | .slot i => σ[i]? = some (some v)
inductive HoldRs (K : PySem.W.Frag) (G H : Hp) (en : En) (σ : St) : List V → List Hd → Prop
  | nil : HoldRs K G H en σ [] []
  | cons {v : V} {h : Hd} {vs : List V} {hs : List Hd} : HoldR K G H en σ v h → HoldRs K G H en σ vs hs → HoldRs K G H en σ (v :: vs) (h :: hs)
inductive Uses (K : PySem.W.Frag) (G H : Hp) : List V → List D → Prop
  | nil : Uses K G H [] []
  | cons {v : V} {d : D} {vs : List V} {ds : List D} : Use K G H v d → Uses K G H vs ds → Uses K G H (v :: vs) (d :: ds)
theorem HoldR.step {v : V} {h : Hd} (r : HoldR K G H en σ v h) (a : Step K en en1 σ G H G1 H1) : HoldR K G1 H1 en1 σ v h := by
  cases h with
  | sv d => exact Rep.mono a.ext.g r
  | tv d =>
    rcases r with r | ⟨x, o, e, h1, h2, h3, h4⟩
    · exact .inl (Rep.mono a.ext.g r)
    · exact .inr ⟨x, o, e, a.ext.h x o h1 h3, a.ext.n x o h1 h3 h2, fun q => h3 (a.own x q), h4.mono a.ext.g⟩
  | slot i => exact r
theorem HoldRs.step : ∀ {vs : List V} {hs : List Hd}, HoldRs K G H en σ vs hs → Step K en en1 σ G H G1 H1 → HoldRs K G1 H1 en1 σ vs hs
  | _, _, .nil, _ => .nil
  | _, _, .cons h r, a => .cons (h.step a) (HoldRs.step r a)
theorem HoldR.use {v : V} {h : Hd} {d : D} (S : SR K G H en σ) (r : HoldR K G H en σ v h) (e : h.late en = some d) : Use K G H v d := by
  cases h with
  | sv d' => cases e; exact .inl r
  | tv d' =>
    cases e
    rcases r with r | ⟨x, o, e, h1, h2, h3, h4⟩
    · exact .inl r
    · exact .inr ⟨x, o, e, h1, h4⟩
  | slot i =>
    obtain ⟨f, q⟩ := peek_some (show peek en i = some d from e)
    have r' : σ[i]? = some (some v) := r
    by_cases hf : f = .sh
    · subst hf
      obtain ⟨w, e1, e2⟩ := S.shd i _ q
      rw [r'] at e1; cases e1
      exact .inl e2
    · obtain ⟨a, o, e1, _, e3, e4⟩ := S.own i _ f q hf
      rw [r'] at e1; cases e1
      exact .inr ⟨a, o, rfl, e3, e4⟩
theorem HoldRs.uses (S : SR K G H en σ) : ∀ {vs : List V} {hs : List Hd} {ds : List D}, HoldRs K G H en σ vs hs → lates en hs = some ds → Uses K G H vs ds
  | _, _, _, .nil, e => by cases e; exact .nil
  | _, _, _, .cons h r, e => by
    unfold lates at e
    split at e
    · rename_i d ds e1 e2
      cases e
      exact .cons (h.use S e1) (HoldRs.uses S r e2)
    · cases e

/-! ### reading an operand's data -/
theorem Use.list {v : V} {ds : List D} (s : Same G H) (u : Use K G H v (.list ds)) : ∃ a xs, v = .ref a ∧ SqL K H a xs ∧ Reps K G xs ds := by
  rcases u with u | ⟨a, o, rfl, h, r⟩
  · cases u with
    | lst h r => exact ⟨_, _, rfl, s.seq h, r⟩
  · cases r with
    | lst r => exact ⟨a, _, rfl, .inl (.inl h), r⟩
theorem Use.tupG {v : V} {ds : List D} (u : Use K G H v (.tuple ds)) : ∃ a xs, v = .ref a ∧ TupG K G a xs ∧ Reps K G xs ds := by
  rcases u with u | ⟨a, o, rfl, h, r⟩
  · cases u with
    | tup h r => exact ⟨_, _, rfl, h, r⟩
  · cases r
theorem Use.tuple {v : V} {ds : List D} (s : Same G H) (u : Use K G H v (.tuple ds)) : ∃ a xs, v = .ref a ∧ SqT K H a xs ∧ Reps K G xs ds :=
  let ⟨a, xs, e, h, r⟩ := u.tupG
  ⟨a, xs, e, seqT s h.sq, r⟩
theorem Use.dict {v : V} {es : List (D × D)} (s : Same G H) (u : Use K G H v (.dict es)) : ∃ a kvs, v = .ref a ∧ Rd H a (.dK kvs) ∧ RepKV K G kvs es := by
  rcases u with u | ⟨a, o, rfl, h, r⟩
  · cases u with
    | dct h r => exact ⟨_, _, rfl, rdS s h, r⟩
  · cases r with
    | dK r => exact ⟨a, _, rfl, .inl h, r⟩
theorem Use.int {v : V} {i : Int} (u : Use K G H v (.int i)) : v = .int i := by
  rcases u with u | ⟨a, o, rfl, h, r⟩
  · cases u; rfl
  · cases r
theorem Use.str {v : V} {x : Str} (u : Use K G H v (.str x)) : v = .str x := by
  rcases u with u | ⟨a, o, rfl, h, r⟩
  · cases u; rfl
  · cases r
theorem Use.bool {v : V} {b : Bool} (u : Use K G H v (.bool b)) : v = .bl b := by
  rcases u with u | ⟨a, o, rfl, h, r⟩
  · cases u; rfl
  · cases r
theorem Use.none {v : V} (u : Use K G H v .none) : v = .non := by
  rcases u with u | ⟨a, o, rfl, h, r⟩
  · cases u; rfl
  · cases r
theorem Uses.one {vs : List V} {d : D} (u : Uses K G H vs [d]) : ∃ v, vs = [v] ∧ Use K G H v d := by
  cases u with
  | cons h r => cases r; exact ⟨_, rfl, h⟩
theorem Uses.two {vs : List V} {d e : D} (u : Uses K G H vs [d, e]) : ∃ v w, vs = [v, w] ∧ Use K G H v d ∧ Use K G H w e := by
  cases u with
  | cons h r => obtain ⟨w, rfl, h2⟩ := r.one; exact ⟨_, _, rfl, h, h2⟩
end

/-! ### the readings -/
abbrev Ev := En → Option (D × Bool × En)
abbrev Vv := En → Option (D × En)
abbrev Ov := En → Option (Hd × En)
abbrev Av := En → Option (List Hd × En)
abbrev Tv := En → Option (Bool × En)
inductive Out where
  | nx | rt (d : D) (b : Bool) | bk | ct
abbrev Sv := En → Option (Out × En)
section
variable (K : PySem.W.Frag)
def FE (f : Ev) : TE := fun σ H Q => ∃ G en d b en', SR K G H en σ ∧ f en = some (d, b, en') ∧ ∀ v G' H', Step K en en' σ G H G' H' → Res K (OwnA en σ) H (OwnA en' σ) G' H' v d b → Q v H'
def FV (f : Vv) : TE := fun σ H Q => ∃ G en d en', SR K G H en σ ∧ f en = some (d, en') ∧ ∀ v G' H', Step K en en' σ G H G' H' → Rep K G' v d → Q v H'
def FO (f : Ov) : TE := fun σ H Q => ∃ G en h en', SR K G H en σ ∧ f en = some (h, en') ∧ ∀ v G' H', Step K en en' σ G H G' H' → HoldR K G' H' en' σ v h → Q v H'
def FA (f : Av) : TA := fun σ H Q => ∃ G en hs en', SR K G H en σ ∧ f en = some (hs, en') ∧ ∀ vs G' H', Step K en en' σ G H G' H' → HoldRs K G' H' en' σ vs hs → Q vs H'
def FT (f : Tv) : TT := fun σ H Q => ∃ G en b en', SR K G H en σ ∧ f en = some (b, en') ∧ ∀ G' H', Step K en en' σ G H G' H' → Q b H'
def OutR (D : Ends) (en : En) (σ : St) (G H : Hp) (en' : En) : Out → Prop
  | .nx => ∀ G' H' σ', StepS K en σ G H en' σ' G' H' → D.nx σ' H'
  | .bk => ∀ G' H' σ', StepS K en σ G H en' σ' G' H' → D.bk σ' H'
  | .ct => ∀ G' H' σ', StepS K en σ G H en' σ' G' H' → D.ct σ' H'
  | .rt d b => ∀ v G' H' σ', StepS K en σ G H en' σ' G' H' → Res K (OwnA en σ) H (OwnA en' σ') G' H' v d b → D.rt v H'
def FS (g : Sv) : TS := fun D σ H => ∃ G en out en', SR K G H en σ ∧ g en = some (out, en') ∧ OutR K D en σ G H en' out
end
theorem pe_imp {X : Cx} {e : Expr} {t t' : TE} (h : PE X e t) (k : ∀ σ H Q, t' σ H Q → t σ H Q) : PE X e t' := ⟨fun pins s σ H Q I q => h.run pins s σ H Q I (k _ _ _ q)⟩
theorem pt_imp {X : Cx} {e : Expr} {t t' : TT} (h : PT X e t) (k : ∀ σ H Q, t' σ H Q → t σ H Q) : PT X e t' := ⟨fun pins s σ H Q I q => h.run pins s σ H Q I (k _ _ _ q)⟩
theorem pw_imp {X : Cx} {e : Expr} {t t' : TT} (h : PW X e t) (k : ∀ σ H Q, t' σ H Q → t σ H Q) : PW X e t' := ⟨fun wh pins s σ H Q I q => h.run wh pins s σ H Q I (k _ _ _ q)⟩
theorem pa_imp {X : Cx} {e : List Expr} {t t' : TA} (h : PA X e t) (k : ∀ σ H Q, t' σ H Q → t σ H Q) : PA X e t' := ⟨fun pos pins s σ H Q I q => h.run pos pins s σ H Q I (k _ _ _ q)⟩
theorem ps_imp {X : Cx} {e : Stmt} {t t' : TS} (h : PS X e t) (k : ∀ D σ H, t' D σ H → t D σ H) : PS X e t' := ⟨fun pins s σ H D I q => h.run pins s σ H D I (k _ _ _ q)⟩
theorem pss_imp {X : Cx} {e : List Stmt} {t t' : TS} (h : PSs X e t) (k : ∀ D σ H, t' D σ H → t D σ H) : PSs X e t' := ⟨fun pins s σ H D I q => h.run pins s σ H D I (k _ _ _ q)⟩
end Fx
/-! Fx1: names, constants, operands, operators, tests, displays. -/
namespace Fx
open PySem PySem.Spec L2
section
variable {K : PySem.W.Frag} {G H G1 H1 : Hp} {en en1 : En} {σ : St}

theorem same_upd {a : Addr} {o : HO} (h : G a = none) : Same G (upd G a o) := fun b u e => by
  rw [upd_ne (ne_of_none e h)]
  exact e
/-- an object of nobody is shared from now on -/
theorem SR.share {a : Addr} {o : HO} (S : SR K G H en σ) (h1 : H a = some o) (h2 : G a = none) (h3 : ¬ OwnA en σ a) : SR K (upd G a o) H en σ := by
  have s := same_upd (o := o) h2
  refine ⟨fun b u e => ?_, S.len, fun i d e => ?_, fun i d f e n => ?_, S.sep⟩
  · by_cases hb : b = a
    · subst hb
      rw [upd_same] at e
      cases e
      exact h1
    · rw [upd_ne hb] at e
      exact S.sub b u e
  · obtain ⟨v, e1, e2⟩ := S.shd i d e
    exact ⟨v, e1, e2.mono s⟩
  · obtain ⟨b, u, e1, e2, e3, e4⟩ := S.own i d f e n
    have hb : b ≠ a := fun z => h3 ⟨i, d, f, e, n, by rw [← z]; exact e1⟩
    exact ⟨b, u, e1, by rw [upd_ne hb]; exact e2, e3, e4.mono s⟩
theorem Step.share {a : Addr} {o : HO} (T : Step K en en1 σ G H G1 H1) (h0 : H a = none ∨ OwnA en σ a) (h1 : H1 a = some o) (h2 : G1 a = none) (h3 : ¬ OwnA en1 σ a) : Step K en en1 σ G H (upd G1 a o) H1 := by
  refine ⟨⟨T.ext.g.trans (same_upd h2), T.ext.h, fun b u e n g => ?_, T.ext.t⟩, T.sr.share h1 h2 h3, T.own, T.lent⟩
  have hb : b ≠ a := fun z => by
    subst z
    rcases h0 with h0 | h0
    · rw [h0] at e; cases e
    · exact n h0
  rw [upd_ne hb]
  exact T.ext.n b u e n g
/-- a slot's own object is shared from now on -/
theorem own_set {i : Nat} {d : D} {f : Fl} {b : Addr} (e : en[i]? = some (some (d, f))) (hf : f ≠ .sh) {d' : D} (h : OwnA (en.set i (some (d', .sh))) σ b) : OwnA en σ b := by
  obtain ⟨j, d2, g, e1, n, s⟩ := h
  by_cases hj : j = i
  · subst hj
    rw [List.getElem?_set_self (List.getElem?_eq_some_iff.mp e).1] at e1
    cases e1
    exact absurd rfl n
  · rw [List.getElem?_set_ne (Ne.symm hj)] at e1
    exact ⟨j, d2, g, e1, n, s⟩
theorem SR.demote {i : Nat} {d : D} (S : SR K G H en σ) (e : en[i]? = some (some (d, .own))) : ∃ (a : Addr) (o : HO), σ[i]? = some (some (.ref a)) ∧ Rep K (upd G a o) (.ref a) d ∧ Step K en (en.set i (some (d, .sh))) σ G H (upd G a o) H := by
  obtain ⟨a, o, e1, e2, e3, e4⟩ := S.own i d .own e (by decide)
  have hi : i < en.length := (List.getElem?_eq_some_iff.mp e).1
  have s := same_upd (o := o) e2
  have r : Rep K (upd G a o) (.ref a) d := (e4.mono s).rep upd_same
  have me : OwnA en σ a := ⟨i, d, .own, e, by decide, e1⟩
  refine ⟨a, o, e1, r, ⟨⟨s, fun b u h _ => h, fun b u h n g => ?_, fun _ h => h⟩, ⟨fun b u h => ?_, by simpa using S.len, fun j d2 h => ?_, fun j d2 f h n => ?_, fun j k d2 d3 f g b h1 n1 h2 n2 => ?_⟩, fun b h => own_set e (by decide) h, fun j d2 h => ?_⟩⟩
  · have hb : b ≠ a := fun z => n (by rw [z]; exact me)
    rw [upd_ne hb]
    exact g
  · by_cases hb : b = a
    · subst hb
      rw [upd_same] at h
      cases h
      exact e3
    · rw [upd_ne hb] at h
      exact S.sub b u h
  · by_cases hj : j = i
    · subst hj
      rw [List.getElem?_set_self hi] at h
      cases h
      exact ⟨_, e1, r⟩
    · rw [List.getElem?_set_ne (Ne.symm hj)] at h
      obtain ⟨v, q1, q2⟩ := S.shd j d2 h
      exact ⟨v, q1, q2.mono s⟩
  · by_cases hj : j = i
    · subst hj
      rw [List.getElem?_set_self hi] at h
      cases h
      exact absurd rfl n
    · rw [List.getElem?_set_ne (Ne.symm hj)] at h
      obtain ⟨b, u, q1, q2, q3, q4⟩ := S.own j d2 f h n
      have hb : b ≠ a := fun z => by
        subst z
        exact hj (S.sep j i d2 d f .own b h n e (by decide) q1 e1)
      exact ⟨b, u, q1, by rw [upd_ne hb]; exact q2, q3, q4.mono s⟩
  · have no : ∀ (j : Nat) (d2 : D) (f : Fl), (en.set i (some (d, .sh)))[j]? = some (some (d2, f)) → f ≠ .sh → en[j]? = some (some (d2, f)) := fun j d2 f h n => by
      by_cases hj : j = i
      · subst hj
        rw [List.getElem?_set_self hi] at h
        cases h
        exact absurd rfl n
      · rw [List.getElem?_set_ne (Ne.symm hj)] at h
        exact h
    exact S.sep j k d2 d3 f g b (no j d2 f h1 n1) n1 (no k d3 g h2 n2) n2
  · have hj : j ≠ i := fun z => by
      subst z
      rw [e] at h
      cases h
    exact ⟨d2, by rw [List.getElem?_set_ne (Ne.symm hj)]; exact h⟩
/-- nothing is written: new objects alone, shared or nobody's -/
structure New (G H G1 H1 : Hp) : Prop where
  ext : Ext (fun _ => False) G H G1 H1
  sub : Same G1 H1
theorem New.refl (s : Same G H) : New G H G H := ⟨Ext.refl, s⟩
theorem New.step (S : SR K G H en σ) (E : New G H G1 H1) : Step K en en σ G H G1 H1 := by
  have sub : Same H H1 := fun b u h => E.ext.h b u h (fun z => z)
  refine ⟨E.ext.weak fun _ _ z _ => z.elim, ⟨E.sub, S.len, fun i d e => ?_, fun i d f e n => ?_, S.sep⟩, fun _ h => h, fun _ d e => ⟨d, e⟩⟩
  · obtain ⟨v, e1, e2⟩ := S.shd i d e
    exact ⟨v, e1, e2.mono E.ext.g⟩
  · obtain ⟨a, o, e1, e2, e3, e4⟩ := S.own i d f e n
    exact ⟨a, o, e1, E.ext.n a o e3 (fun z => z) e2, sub a o e3, e4.mono E.ext.g⟩
/-- a new object of nobody -/
theorem New.own {p : Addr} {o : HO} (s : Same G H) (hp : H p = none) : New G H G (upd H p o) := by
  refine ⟨⟨Same.refl _, fun b u e _ => ?_, fun _ _ _ _ g => g, fun b e => ?_⟩, fun b u e => ?_⟩
  · rw [upd_ne (ne_of_none e hp)]; exact e
  · by_cases hb : b = p
    · rw [hb]; exact hp
    · rw [upd_ne hb] at e; exact e
  · rw [upd_ne (ne_of_none (s b u e) hp)]; exact s b u e
/-- a new object that is shared at once -/
theorem New.shd {p : Addr} {o : HO} (s : Same G H) (hp : H p = none) : New G H (upd G p o) (upd H p o) := by
  have gp : G p = none := s.free hp
  refine ⟨⟨same_upd gp, fun b u e _ => ?_, fun b u e _ g => ?_, fun b e => ?_⟩, fun b u e => ?_⟩
  · rw [upd_ne (ne_of_none e hp)]; exact e
  · rw [upd_ne (ne_of_none e hp)]; exact g
  · by_cases hb : b = p
    · rw [hb]; exact hp
    · rw [upd_ne hb] at e; exact e
  · by_cases hb : b = p
    · subst hb; rw [upd_same] at e ⊢; exact e
    · rw [upd_ne hb] at e ⊢; exact s b u e
/-- a result over new objects alone -/
def Fresh (K : PySem.W.Frag) (H G1 H1 : Hp) (v : V) (d : D) (b : Bool) : Prop := Res K (fun _ => False) H (fun _ => False) G1 H1 v d b
theorem Fresh.res {v : V} {d : D} {b : Bool} (S : SR K G H en σ) (h : Fresh K H G1 H1 v d b) : Res K (OwnA en σ) H (OwnA en σ) G1 H1 v d b := by
  cases b with
  | false => exact h
  | true =>
    obtain ⟨a, o, e, h1, _, h3, h4, h5⟩ := h
    have hn : H a = none := h1.resolve_right fun z => z
    refine ⟨a, o, e, .inl hn, fun q => ?_, h3, h4, h5⟩
    obtain ⟨u, e1, _⟩ := S.there q
    rw [hn] at e1
    cases e1
theorem Fresh.res' {G2 H2 : Hp} {v : V} {d : D} {b : Bool} (T : Step K en en1 σ G H G1 H1) (h : Fresh K H1 G2 H2 v d b) : Res K (OwnA en σ) H (OwnA en1 σ) G2 H2 v d b := by
  have q := Fresh.res T.sr h
  cases b with
  | false => exact h
  | true =>
    obtain ⟨a, o, e, q1, q2, q3, q4, q5⟩ := q
    refine ⟨a, o, e, ?_, q2, q3, q4, q5⟩
    rcases q1 with q1 | q1
    · exact .inl (T.ext.t a q1)
    · exact .inr (T.own a q1)
theorem Fresh.sh {v : V} {d : D} (h : Rep K G1 v d) : Fresh K H G1 H1 v d false := h
theorem Fresh.new {p : Addr} {o : HO} {d : D} (s : Same G H) (hp : H p = none) (r : RepO K G o d) : Fresh K H G (upd H p o) (.ref p) d true :=
  ⟨p, o, rfl, .inl hp, fun z => z, upd_same, s.free hp, r⟩
end

/-! ### from one form to another -/
section
variable {X : Cx} {e : Expr} {pos : Pos}
def toV (f : Ev) : Vv := fun en => match f en with
  | some (d, _, en') => some (d, en')
  | none => none
def ofV (f : Vv) : Ev := fun en => match f en with
  | some (d, en') => some (d, false, en')
  | none => none
def toO (f : Ev) : Ov := fun en => match f en with
  | some (d, _, en') => some (.tv d, en')
  | none => none
def svO (f : Vv) : Ov := fun en => match f en with
  | some (d, en') => some (.sv d, en')
  | none => none
theorem res_share {K : PySem.W.Frag} {G H G1 H1 : Hp} {en en1 : En} {σ : St} {v : V} {d : D} {b : Bool} (T : Step K en en1 σ G H G1 H1) (r : Res K (OwnA en σ) H (OwnA en1 σ) G1 H1 v d b) : ∃ G2, Step K en en1 σ G H G2 H1 ∧ Rep K G2 v d := by
  cases b with
  | false => exact ⟨G1, T, r⟩
  | true =>
    obtain ⟨a, o, rfl, h1, h2, h3, h4, h5⟩ := r
    exact ⟨_, T.share (h1) h3 h4 h2, (h5.mono (same_upd h4)).rep upd_same⟩
theorem fv_e {f : Ev} (h : PE X e (FE X.K f)) : PE X e (FV X.K (toV f)) := pe_imp h fun σ H Q ⟨G, en, d, en', S, e1, k⟩ => by
  unfold toV at e1
  split at e1
  · rename_i d' b en2 e2
    cases e1
    exact ⟨G, en, _, b, _, S, e2, fun v G' H' T r => let ⟨G2, T2, r2⟩ := res_share T r; k v G2 H' T2 r2⟩
  · cases e1
theorem fe_v {f : Vv} (h : PE X e (FV X.K f)) : PE X e (FE X.K (ofV f)) := pe_imp h fun σ H Q ⟨G, en, d, b, en', S, e1, k⟩ => by
  unfold ofV at e1
  split at e1
  · rename_i d' en2 e2
    cases e1
    exact ⟨G, en, _, _, S, e2, fun v G' H' T r => k v G' H' T r⟩
  · cases e1
theorem fo_e {f : Ev} (h : PE X e (FE X.K f)) : PE X e (FO X.K (toO f)) := pe_imp h fun σ H Q ⟨G, en, hd, en', S, e1, k⟩ => by
  unfold toO at e1
  split at e1
  · rename_i d' b en2 e2
    cases e1
    refine ⟨G, en, _, b, _, S, e2, fun v G' H' T r => k v G' H' T ?_⟩
    cases b with
    | false => exact .inl r
    | true =>
      obtain ⟨a, o, rfl, h1, h2, h3, h4, h5⟩ := r
      exact .inr ⟨a, o, rfl, h3, h4, h2, h5⟩
  · cases e1
theorem fo_v {f : Vv} (h : PE X e (FV X.K f)) : PE X e (FO X.K (svO f)) := pe_imp h fun σ H Q ⟨G, en, hd, en', S, e1, k⟩ => by
  unfold svO at e1
  split at e1
  · rename_i d' en2 e2
    cases e1
    exact ⟨G, en, _, _, S, e2, fun v G' H' T r => k v G' H' T r⟩
  · cases e1

/-! ### names, constants -/
def fName (i : Nat) : Vv := fun en => match en[i]? with
  | some (some (d, .sh)) => some (d, en)
  | some (some (d, .own)) => some (d, en.set i (some (d, .sh)))
  | _ => none
def fSlot (i : Nat) : Ov := fun en => match peek en i with
  | some _ => some (.slot i, en)
  | none => none
theorem fv_name {i : Nat} (h : PE X e (tVar i)) : PE X e (FV X.K (fName i)) := pe_imp h fun σ H Q ⟨G, en, d, en', S, e1, k⟩ => by
  unfold fName at e1
  split at e1
  · rename_i d' e2
    cases e1
    obtain ⟨v, q1, q2⟩ := S.shd i _ e2
    exact ⟨v, q1, k v G H (Step.refl S) q2⟩
  · rename_i d' e2
    cases e1
    obtain ⟨a, o, q1, q2, q3⟩ := S.demote e2
    exact ⟨_, q1, k _ _ _ q3 q2⟩
  · cases e1
theorem fo_name {i : Nat} (h : PE X e (tVar i)) : PE X e (FO X.K (fSlot i)) := pe_imp h fun σ H Q ⟨G, en, hd, en', S, e1, k⟩ => by
  unfold fSlot at e1
  split at e1
  · rename_i d e2
    cases e1
    obtain ⟨f, q⟩ := peek_some e2
    by_cases hf : f = .sh
    · subst hf
      obtain ⟨v, q1, q2⟩ := S.shd i _ q
      exact ⟨v, q1, k v G H (Step.refl S) q1⟩
    · obtain ⟨a, o, q1, q2, q3, q4⟩ := S.own i _ f q hf
      exact ⟨_, q1, k _ G H (Step.refl S) q1⟩
  · cases e1
def fC (d : D) : Vv := fun en => some (d, en)
theorem fv_c {v : V} {d : D} (h : PE X e (tC v)) (r : ∀ G, Rep X.K G v d) : PE X e (FV X.K (fC d)) := pe_imp h fun σ H Q ⟨G, en, d', en', S, e1, k⟩ => by
  cases e1
  exact k v G H (Step.refl S) (r G)
theorem fv_int {i : Int} {j} : PE X (.Constant (.int i) j pos) (FV X.K (fC (.int i))) := fv_c pe_int fun _ => .int i
theorem fv_bl {b : Bool} {j} : PE X (.Constant (.bool b) j pos) (FV X.K (fC (.bool b))) := fv_c pe_bl fun _ => .bl b
theorem fv_non {j} : PE X (.Constant .none j pos) (FV X.K (fC .none)) := fv_c pe_non fun _ => .non
theorem fv_str {x : Str} {j} : PE X (.Constant (.str x) j pos) (FV X.K (fC (.str x))) := fv_c pe_str fun _ => .str x

/-! ### argument lists -/
def aNil : Av := fun en => some ([], en)
def aCons (p : Ov) (r : Av) : Av := fun en => match p en with
  | some (h, en1) => (match r en1 with
    | some (hs, en2) => some (h :: hs, en2)
    | none => none)
  | none => none
theorem fa_nil : PA X [] (FA X.K aNil) := pa_imp pa_nil fun σ H Q ⟨G, en, hs, en', S, e1, k⟩ => by
  cases e1
  exact k [] G H (Step.refl S) .nil
theorem fa_cons {es : List Expr} {p : Ov} {r : Av} (h : PE X e (FO X.K p)) (hr : PA X es (FA X.K r)) (hs : starEach (e :: es) X.env = (false, eval e X.env) :: starEach es X.env := by rfl) : PA X (e :: es) (FA X.K (aCons p r)) :=
  pa_imp (pa_cons h hr hs) fun σ H Q ⟨G, en, hs, en', S, e1, k⟩ => by
    unfold aCons at e1
    split at e1
    · rename_i h1 en1 e2
      split at e1
      · rename_i hs2 en2 e3
        cases e1
        refine ⟨G, en, _, _, S, e2, fun v G1 H1 T1 r1 => ⟨G1, en1, _, _, T1.sr, e3, fun vs G2 H2 T2 r2 => k _ G2 H2 (T1.trans T2) (.cons (r1.step T2) r2)⟩⟩
      · cases e1
    · cases e1
/-- values that are kept: all shared -/
abbrev Lv := En → Option (List D × En)
def FL (K : PySem.W.Frag) (f : Lv) : TA := fun σ H Q => ∃ G en ds en', SR K G H en σ ∧ f en = some (ds, en') ∧ ∀ vs G' H', Step K en en' σ G H G' H' → Reps K G' vs ds → Q vs H'
def lNil : Lv := fun en => some ([], en)
def lCons (p : Vv) (r : Lv) : Lv := fun en => match p en with
  | some (d, en1) => (match r en1 with
    | some (ds, en2) => some (d :: ds, en2)
    | none => none)
  | none => none
theorem fl_nil : PA X [] (FL X.K lNil) := pa_imp pa_nil fun σ H Q ⟨G, en, hs, en', S, e1, k⟩ => by
  cases e1
  exact k [] G H (Step.refl S) .nil
theorem fl_cons {es : List Expr} {p : Vv} {r : Lv} (h : PE X e (FV X.K p)) (hr : PA X es (FL X.K r)) (hs : starEach (e :: es) X.env = (false, eval e X.env) :: starEach es X.env := by rfl) : PA X (e :: es) (FL X.K (lCons p r)) :=
  pa_imp (pa_cons h hr hs) fun σ H Q ⟨G, en, hs, en', S, e1, k⟩ => by
    unfold lCons at e1
    split at e1
    · rename_i h1 en1 e2
      split at e1
      · rename_i hs2 en2 e3
        cases e1
        refine ⟨G, en, _, _, S, e2, fun v G1 H1 T1 r1 => ⟨G1, en1, _, _, T1.sr, e3, fun vs G2 H2 T2 r2 => k _ G2 H2 (T1.trans T2) (.cons (r1.mono T2.ext.g) r2)⟩⟩
      · cases e1
    · cases e1

/-! ### displays -/
def fTup (r : Lv) : Vv := fun en => match r en with
  | some (ds, en') => if ds.length ≤ sizeLine then some (.tuple ds, en') else none
  | none => none
def fLst (r : Lv) : Ev := fun en => match r en with
  | some (ds, en') => if ds.length ≤ sizeLine then some (.list ds, true, en') else none
  | none => none
/-- a tuple that is made, its exact object told -/
def tTupZ (t : TA) : TE := fun σ H Q => t σ H fun xs H1 => xs.length ≤ sizeLine ∧ ∀ p o, H1 p = none → o.dict = none → Q (.ref p) (upd H1 p (.frz o (.tup xs)))
theorem inv_tupZ {pins : List (Addr × Obj)} {σ : St} {H : Hp} {s : Shared} {xs : List V} {us : List Value} (I : Inv X pins σ H s) (r : Vals xs us) (hz : xs.length ≤ sizeLine) :
    Inv X pins σ (upd H s.heap.objs.size (.frz { cls := .type "tuple", data := .seq us.toArray } (.tup xs))) { s with heap := s.heap.push { cls := .type "tuple", data := .seq us.toArray } } :=
  I.laid (t' := s.toks) (fun b u e => Heap.get?_push_of_some _ e) (Nat.le_refl _) ⟨Heap.get?_push_size _ rfl, hz, us, r, ⟨_, Heap.get?_push_size _ rfl, rfl, _, rfl⟩⟩
theorem pe_tupZ {es : List Expr} {t : TA} {x1} (h : PA X es t) : PE X (.Tuple es x1 pos) (tTupZ t) := ⟨fun pins s σ H Q I hq =>
  wpAny_Tuple_spliced (thn (h.run pos pins s σ H _ I hq) fun us s1 ⟨xs, H1, I1, r, z, q⟩ => ⟨by rw [← r.length]; exact z, .ref _, _, inv_tupZ I1 r z, rfl, q _ _ (I1.hok.fresh (Nat.le_refl _)) rfl⟩)⟩
theorem fv_tup {es : List Expr} {r : Lv} {x1} (h : PA X es (FL X.K r)) : PE X (.Tuple es x1 pos) (FV X.K (fTup r)) := pe_imp (pe_tupZ h) fun σ H Q ⟨G, en, d, en', S, e1, k⟩ => by
  unfold fTup at e1
  split at e1
  · rename_i ds en2 e2
    split at e1
    · rename_i hl
      cases e1
      refine ⟨G, en, _, _, S, e2, fun vs G1 H1 T r => ⟨by rw [r.length]; exact hl, fun p o hp ho => ?_⟩⟩
      have N := New.shd (o := .frz o (.tup vs)) T.sr.sub hp
      exact k _ _ _ (T.trans (N.step T.sr)) (.tup (.inl ⟨o, upd_same, ho⟩) (r.mono N.ext.g))
    · cases e1
  · cases e1
theorem fe_lst {es : List Expr} {r : Lv} (h : PA X es (FL X.K r)) : PE X (.List es pos) (FE X.K (fLst r)) := pe_imp (pe_lst h) fun σ H Q ⟨G, en, d, b, en', S, e1, k⟩ => by
  unfold fLst at e1
  split at e1
  · rename_i ds en2 e2
    split at e1
    · rename_i hl
      cases e1
      refine ⟨G, en, _, _, S, e2, fun vs G1 H1 T r => ⟨by rw [r.length]; exact hl, fun p hp => ?_⟩⟩
      have N := New.own (o := .lst vs) T.sr.sub hp
      refine k _ _ _ (T.trans (N.step T.sr)) ?_
      exact Fresh.res' T (Fresh.new (o := .lst vs) T.sr.sub hp (.lst r))
    · cases e1
  · cases e1
end
end Fx
/-! Fx2: operators, calls, tests. -/
namespace Fx
open PySem PySem.Spec L2
/-- from what is asked of the data to what the rule asks -/
def Op1 (K : PySem.W.Frag) (r : V → Hp → VK → Prop) (g : D → Option (D × Bool)) : Prop := ∀ x d z b G H Q, Same G H → Use K G H x d → g d = some (z, b) → (∀ v G' H', New G H G' H' → Fresh K H G' H' v z b → Q v H') → r x H Q
def Op2 (K : PySem.W.Frag) (r : R2) (g : D → D → Option (D × Bool)) : Prop := ∀ x y d e z b G H Q, Same G H → Use K G H x d → Use K G H y e → g d e = some (z, b) → (∀ v G' H', New G H G' H' → Fresh K H G' H' v z b → Q v H') → r x y H Q
def OpN (K : PySem.W.Frag) (r : List V → Hp → VK → Prop) (g : List D → Option (D × Bool)) : Prop := ∀ vs ds z b G H Q, Same G H → Uses K G H vs ds → g ds = some (z, b) → (∀ v G' H', New G H G' H' → Fresh K H G' H' v z b → Q v H') → r vs H Q

def f1 (p : Ov) (g : D → Option (D × Bool)) : Ev := fun en => (p en).bind fun x => (x.1.late x.2).bind fun d => (g d).map fun z => (z.1, z.2, x.2)
def f2 (p q : Ov) (g : D → D → Option (D × Bool)) : Ev := fun en => (p en).bind fun x => (q x.2).bind fun y => (x.1.late y.2).bind fun d => (y.1.late y.2).bind fun e => (g d e).map fun z => (z.1, z.2, y.2)
def fN (a : Av) (g : List D → Option (D × Bool)) : Ev := fun en => (a en).bind fun x => (lates x.2 x.1).bind fun ds => (g ds).map fun z => (z.1, z.2, x.2)
section
variable {X : Cx} {a b e : Expr} {pos : Pos} {K : PySem.W.Frag}
theorem t1_of {r : V → Hp → VK → Prop} {p : Ov} {g : D → Option (D × Bool)} (o : Op1 K r g) {σ : St} {H : Hp} {Q : VK} (h : FE K (f1 p g) σ H Q) : tUn r (FO K p) σ H Q := by
  obtain ⟨G, en, z, b, en', S, e1, k⟩ := h
  obtain ⟨⟨x, en1⟩, p1, e2⟩ := Option.bind_eq_some_iff.mp e1
  obtain ⟨d, p3, e4⟩ := Option.bind_eq_some_iff.mp e2
  obtain ⟨⟨z', b'⟩, p5, e6⟩ := Option.map_eq_some_iff.mp e4
  cases e6
  refine ⟨G, en, x, en1, S, p1, fun v G1 H1 T1 r1 => ?_⟩
  exact o v d _ _ G1 H1 Q T1.sr.sub (r1.use T1.sr p3) p5 fun v G' H' N F => k v G' H' (T1.trans (N.step T1.sr)) (F.res' T1)
theorem t2_of {r : R2} {p q : Ov} {g : D → D → Option (D × Bool)} (o : Op2 K r g) {σ : St} {H : Hp} {Q : VK} (h : FE K (f2 p q g) σ H Q) : tOp r (FO K p) (FO K q) σ H Q := by
  obtain ⟨G, en, z, b, en', S, e1, k⟩ := h
  obtain ⟨⟨x, en1⟩, p1, e2⟩ := Option.bind_eq_some_iff.mp e1
  obtain ⟨⟨y, en2⟩, p2, e3⟩ := Option.bind_eq_some_iff.mp e2
  obtain ⟨d, p3, e4⟩ := Option.bind_eq_some_iff.mp e3
  obtain ⟨e, p4, e5⟩ := Option.bind_eq_some_iff.mp e4
  obtain ⟨⟨z', b'⟩, p5, e6⟩ := Option.map_eq_some_iff.mp e5
  cases e6
  refine ⟨G, en, x, en1, S, p1, fun v G1 H1 T1 r1 => ⟨G1, en1, y, en2, T1.sr, p2, fun w G2 H2 T2 r2 => ?_⟩⟩
  exact o v w d e _ _ G2 H2 Q T2.sr.sub ((r1.step T2).use T2.sr p3) (r2.use T2.sr p4) p5 fun v G' H' N F => k v G' H' ((T1.trans T2).trans (N.step T2.sr)) (F.res' (T1.trans T2))
theorem tN_of {r : List V → Hp → VK → Prop} {a : Av} {g : List D → Option (D × Bool)} (o : OpN K r g) {σ : St} {H : Hp} {Q : VK} (h : FE K (fN a g) σ H Q) : tCB r (FA K a) σ H Q := by
  obtain ⟨G, en, z, b, en', S, e1, k⟩ := h
  obtain ⟨⟨x, en1⟩, p1, e2⟩ := Option.bind_eq_some_iff.mp e1
  obtain ⟨ds, p3, e4⟩ := Option.bind_eq_some_iff.mp e2
  obtain ⟨⟨z', b'⟩, p5, e6⟩ := Option.map_eq_some_iff.mp e4
  cases e6
  refine ⟨G, en, x, en1, S, p1, fun v G1 H1 T1 r1 => ?_⟩
  exact o v ds _ _ G1 H1 Q T1.sr.sub (r1.uses T1.sr p3) p5 fun v G' H' N F => k v G' H' (T1.trans (N.step T1.sr)) (F.res' T1)
theorem fe_op {op : Operator} {r : R2} {p q : Ov} {g : D → D → Option (D × Bool)} (o : Op2 X.K r g) (ho : OpR X (binaryOp op) r) (ha : PE X a (FO X.K p)) (hb : PE X b (FO X.K q)) : PE X (.BinOp a op b pos) (FE X.K (f2 p q g)) :=
  pe_imp (pe_op ho ha hb) fun _ _ _ h => t2_of o h
theorem fe_un {op : UnaryOp} {r : V → Hp → VK → Prop} {p : Ov} {g : D → Option (D × Bool)} (o : Op1 X.K r g) (ho : UnR X (unaryOp op) r) (ha : PE X a (FO X.K p)) : PE X (.UnaryOp op a pos) (FE X.K (f1 p g)) :=
  pe_imp (pe_un ho ha) fun _ _ _ h => t1_of o h
theorem fe_cmp {op : CmpOp} {r : R2} {p q : Ov} {g : D → D → Option (D × Bool)} (o : Op2 X.K r g) (ho : OpR X (compareOp op) r) (ha : PE X a (FO X.K p)) (hb : PE X b (FO X.K q)) (hm : behindInMarks op b = false) : PE X (.Compare a [op] [b] pos) (FE X.K (f2 p q g)) :=
  pe_imp (pe_cmpR ho ha hb hm) fun _ _ _ h => t2_of o h
theorem fe_ix {r : R2} {p q : Ov} {g : D → D → Option (D × Bool)} (o : Op2 X.K r g) (ho : IxR X r) (ha : PE X a (FO X.K p)) (hb : PE X b (FO X.K q)) (hs : PlainIx b) : PE X (.Subscript a b pos) (FE X.K (f2 p q g)) :=
  pe_imp (pe_ix ho ha hb hs) fun _ _ _ h => t2_of o h
theorem fe_callB {x : Str} {p : Pos} {es : List Expr} {id : String} {r : List V → Hp → VK → Prop} {l : Av} {g : List D → Option (D × Bool)} (o : OpN X.K r g) (hc : CallR X (.builtin id) r) (hm : X.mg x = none) (ha : PA X (e :: es) (FA X.K l)) (hv : bootBuiltins x = some (.builtin id) := by decide +kernel) (hg : Gl X x := by rfl)
    (hn : x ≠ "__name__" := by decide) (hdb : (x == ("__debug__" : Str)) = false := by decide) (he : starEach (e :: es) X.env = (false, eval e X.env) :: starEach es X.env := by rfl) (hpl : (backTo pos (starEach es X.env)).any (·.1) = false := by rfl) : PE X (.Call (.Name x p) (e :: es) [] pos) (FE X.K (fN l g)) :=
  pe_imp (pe_callB hc hg hm hv ha hn hdb he hpl) fun _ _ _ h => tN_of o h
theorem fe_callTy {x : Str} {p : Pos} {es : List Expr} {T : String} {r : List V → Hp → VK → Prop} {l : Av} {g : List D → Option (D × Bool)} (o : OpN X.K r g) (hc : CallR X (.type T) r) (hm : X.mg x = none) (ha : PA X (e :: es) (FA X.K l)) (hv : bootBuiltins x = some (.type T) := by decide +kernel) (hg : Gl X x := by rfl)
    (hn : x ≠ "__name__" := by decide) (hdb : (x == ("__debug__" : Str)) = false := by decide) (he : starEach (e :: es) X.env = (false, eval e X.env) :: starEach es X.env := by rfl) (hpl : (backTo pos (starEach es X.env)).any (·.1) = false := by rfl) : PE X (.Call (.Name x p) (e :: es) [] pos) (FE X.K (fN l g)) :=
  pe_imp (pe_callTy hc hg hm hv ha hn hdb he hpl) fun _ _ _ h => tN_of o h

/-! ### slices -/
abbrev Pv := En → Option (Option Int × En)
def FP (K : PySem.W.Frag) (f : Pv) : TO := fun σ H Q => ∃ G en o en', SR K G H en σ ∧ f en = some (o, en') ∧ ∀ G' H', Step K en en' σ G H G' H' → Q o H'
def pNone : Pv := fun en => some (none, en)
def pInt (p : Ov) : Pv := fun en => (p en).bind fun x => (x.1.late x.2).bind fun d => match d with
  | .int i => some (some i, x.2)
  | _ => none
theorem fp_none : PO X none (FP X.K pNone) := ⟨fun pins s σ H Q I ⟨G, en, o, en', S, e1, k⟩ => by
  cases e1
  exact po_none.run pins s σ H Q I (k G H (Step.refl S))⟩
theorem fp_some {p : Ov} (h : PE X e (FO X.K p)) : PO X (some e) (FP X.K (pInt p)) := ⟨fun pins s σ H Q I ⟨G, en, o, en', S, e1, k⟩ => by
  refine (po_some h).run pins s σ H Q I ?_
  obtain ⟨⟨x, en1⟩, p1, e2⟩ := Option.bind_eq_some_iff.mp e1
  obtain ⟨d, p3, e4⟩ := Option.bind_eq_some_iff.mp e2
  refine ⟨G, en, x, en1, S, p1, fun v G1 H1 T1 r1 => ?_⟩
  have u := r1.use T1.sr p3
  cases d <;> first | (cases e4; done) | skip
  rename_i i
  cases e4
  exact ⟨i, u.int, k G1 H1 T1⟩⟩
def OpS (K : PySem.W.Frag) (r : V → Option Int → Option Int → Hp → VK → Prop) (g : D → Option Int → Option Int → Option (D × Bool)) : Prop :=
  ∀ x d l h z b G H Q, Same G H → Use K G H x d → g d l h = some (z, b) → (∀ v G' H', New G H G' H' → Fresh K H G' H' v z b → Q v H') → r x l h H Q
def fSl (p : Ov) (l h : Pv) (g : D → Option Int → Option Int → Option (D × Bool)) : Ev := fun en => (p en).bind fun x => (l x.2).bind fun y => (h y.2).bind fun w => (x.1.late w.2).bind fun d => (g d y.1 w.1).map fun z => (z.1, z.2, w.2)
theorem fe_slice {lo hi : Option Expr} {p2 : Pos} {r : V → Option Int → Option Int → Hp → VK → Prop} {p : Ov} {l h : Pv} {g : D → Option Int → Option Int → Option (D × Bool)} (o : OpS X.K r g) (hr : SlR X r) (he : PE X e (FO X.K p)) (hl : PO X lo (FP X.K l)) (hu : PO X hi (FP X.K h)) :
    PE X (.Subscript e (.Slice lo hi none p2) pos) (FE X.K (fSl p l h g)) := pe_imp (pe_slice hr he hl hu) fun σ H Q ⟨G, en, z, b, en', S, e1, k⟩ => by
  obtain ⟨⟨x, en1⟩, p1, e2⟩ := Option.bind_eq_some_iff.mp e1
  obtain ⟨⟨y, en2⟩, p2, e3⟩ := Option.bind_eq_some_iff.mp e2
  obtain ⟨⟨w, en3⟩, p3, e4⟩ := Option.bind_eq_some_iff.mp e3
  obtain ⟨d, p4, e5⟩ := Option.bind_eq_some_iff.mp e4
  obtain ⟨⟨z', b'⟩, p5, e6⟩ := Option.map_eq_some_iff.mp e5
  cases e6
  refine ⟨G, en, x, en1, S, p1, fun v G1 H1 T1 r1 => ⟨G1, en1, y, en2, T1.sr, p2, fun G2 H2 T2 => ⟨G2, en2, w, en3, T2.sr, p3, fun G3 H3 T3 => ?_⟩⟩⟩
  have T := (T1.trans T2).trans T3
  exact o v d _ _ _ _ G3 H3 Q T3.sr.sub (((r1.step T2).step T3).use T3.sr p4) p5 fun v G' H' N F => k v G' H' (T.trans (N.step T3.sr)) (F.res' T)

/-! ### tests -/
def tB1 (f : Ev) : Tv := fun en => (f en).bind fun x => match x.1 with
  | .bool b => some (b, x.2.2)
  | _ => none
theorem res_bool {G H G1 H1 : Hp} {O O' : Addr → Prop} {v : V} {c b : Bool} (h : Res K O H O' G1 H1 v (.bool c) b) : v = .bl c := by
  cases b with
  | false =>
    have h : Rep K G1 v (.bool c) := h
    cases h
    rfl
  | true =>
    obtain ⟨a, o, rfl, _, _, _, _, q⟩ := h
    cases q
theorem ft_val {f : Ev} (h : PE X e (FE X.K f)) (he : ∀ whole, isTrue e X.env whole = (do let v ← whole; standAt e.pos; holding [v] (truthy v)) := by intro _; rfl) : PT X e (FT X.K (tB1 f)) :=
  pt_imp (pt_val h he) fun σ H Q ⟨G, en, c, en', S, e1, k⟩ => by
    obtain ⟨⟨d, b, en1⟩, p1, e2⟩ := Option.bind_eq_some_iff.mp e1
    cases d <;> first | (cases e2; done) | skip
    rename_i c'
    cases e2
    exact ⟨G, en, _, b, _, S, p1, fun v G' H' T r => ⟨c, res_bool (G := G) (H := H) r, k G' H' T⟩⟩
def tNotF (f : Tv) : Tv := fun en => (f en).map fun x => (!x.1, x.2)
def tAndF (f g : Tv) : Tv := fun en => (f en).bind fun x => if x.1 = true then g x.2 else some (false, x.2)
def tOrF (f g : Tv) : Tv := fun en => (f en).bind fun x => if x.1 = true then some (true, x.2) else g x.2
theorem ft_not {f : Tv} (h : PT X a (FT X.K f)) : PT X (.UnaryOp .Not a pos) (FT X.K (tNotF f)) := pt_imp (pt_not h) fun σ H Q ⟨G, en, c, en', S, e1, k⟩ => by
  obtain ⟨⟨b, en1⟩, p1, e2⟩ := Option.map_eq_some_iff.mp e1
  cases e2
  exact ⟨G, en, b, en1, S, p1, fun G' H' T => k G' H' T⟩
theorem fw_and1 {f : Tv} (h : PT X a (FT X.K f)) : PW X (.BoolOp .And [a] pos) (FT X.K f) := pw_and1 h
theorem fw_or1 {f : Tv} (h : PT X a (FT X.K f)) : PW X (.BoolOp .Or [a] pos) (FT X.K f) := pw_or1 h
theorem fw_and {rest : List Expr} {f g : Tv} (h : PT X a (FT X.K f)) (hb : PW X (.BoolOp .And (b :: rest) pos) (FT X.K g)) : PW X (.BoolOp .And (a :: b :: rest) pos) (FT X.K (tAndF f g)) :=
  pw_imp (pw_and h hb) fun σ H Q ⟨G, en, c, en', S, e1, k⟩ => by
    obtain ⟨⟨c1, en1⟩, p1, e2⟩ := Option.bind_eq_some_iff.mp e1
    refine ⟨G, en, c1, en1, S, p1, fun G1 H1 T => ?_⟩
    cases c1 with
    | true => exact iteT ⟨G1, en1, c, en', T.sr, e2, fun G2 H2 T2 => k G2 H2 (T.trans T2)⟩
    | false =>
      cases e2
      exact iteF (k G1 H1 T)
theorem fw_or {rest : List Expr} {f g : Tv} (h : PT X a (FT X.K f)) (hb : PW X (.BoolOp .Or (b :: rest) pos) (FT X.K g)) : PW X (.BoolOp .Or (a :: b :: rest) pos) (FT X.K (tOrF f g)) :=
  pw_imp (pw_or h hb) fun σ H Q ⟨G, en, c, en', S, e1, k⟩ => by
    obtain ⟨⟨c1, en1⟩, p1, e2⟩ := Option.bind_eq_some_iff.mp e1
    refine ⟨G, en, c1, en1, S, p1, fun G1 H1 T => ?_⟩
    cases c1 with
    | false => exact iteF ⟨G1, en1, c, en', T.sr, e2, fun G2 H2 T2 => k G2 H2 (T.trans T2)⟩
    | true =>
      cases e2
      exact iteT (k G1 H1 T)
/-- and, or, not of bools as values -/
def fAnd (f g : Ev) : Ev := fun en => (f en).bind fun x => match x.1 with
  | .bool b => if b = true then g x.2.2 else some (.bool false, false, x.2.2)
  | _ => none
def fOr (f g : Ev) : Ev := fun en => (f en).bind fun x => match x.1 with
  | .bool b => if b = true then some (.bool true, false, x.2.2) else g x.2.2
  | _ => none
def fNot (f : Ev) : Ev := fun en => (f en).bind fun x => match x.1 with
  | .bool b => some (.bool (!b), false, x.2.2)
  | _ => none
theorem fe_one {op : BoolOp} {f : Ev} (h : PE X a (FE X.K f)) : PE X (.BoolOp op [a] pos) (FE X.K f) := pe_one h
theorem res_trans {G H G1 H1 G2 H2 : Hp} {en en1 en2 : En} {σ : St} {v : V} {d : D} {b : Bool} (T : Step K en en1 σ G H G1 H1) (r : Res K (OwnA en1 σ) H1 (OwnA en2 σ) G2 H2 v d b) : Res K (OwnA en σ) H (OwnA en2 σ) G2 H2 v d b := by
  cases b with
  | false => exact r
  | true =>
    obtain ⟨a, o, e, q1, q2, q3, q4, q5⟩ := r
    refine ⟨a, o, e, ?_, q2, q3, q4, q5⟩
    rcases q1 with q1 | q1
    · exact .inl (T.ext.t a q1)
    · exact .inr (T.own a q1)
theorem fe_and {rest : List Expr} {f g : Ev} (h : PE X a (FE X.K f)) (hb : PE X (.BoolOp .And (b :: rest) pos) (FE X.K g)) : PE X (.BoolOp .And (a :: b :: rest) pos) (FE X.K (fAnd f g)) :=
  pe_imp (pe_and h hb) fun σ H Q ⟨G, en, z, zb, en', S, e1, k⟩ => by
    obtain ⟨⟨d, b1, en1⟩, p1, e2⟩ := Option.bind_eq_some_iff.mp e1
    cases d <;> first | (cases e2; done) | skip
    rename_i c
    refine ⟨G, en, _, b1, en1, S, p1, fun v G1 H1 T r => ⟨c, res_bool (G := G) (H := H) r, ?_⟩⟩
    cases c with
    | true => exact iteT ⟨G1, en1, z, zb, en', T.sr, e2, fun v G2 H2 T2 r2 => k v G2 H2 (T.trans T2) (res_trans T r2)⟩
    | false =>
      cases e2
      exact iteF (k _ G1 H1 T (Rep.bl false))
theorem fe_or {rest : List Expr} {f g : Ev} (h : PE X a (FE X.K f)) (hb : PE X (.BoolOp .Or (b :: rest) pos) (FE X.K g)) : PE X (.BoolOp .Or (a :: b :: rest) pos) (FE X.K (fOr f g)) :=
  pe_imp (pe_or h hb) fun σ H Q ⟨G, en, z, zb, en', S, e1, k⟩ => by
    obtain ⟨⟨d, b1, en1⟩, p1, e2⟩ := Option.bind_eq_some_iff.mp e1
    cases d <;> first | (cases e2; done) | skip
    rename_i c
    refine ⟨G, en, _, b1, en1, S, p1, fun v G1 H1 T r => ⟨c, res_bool (G := G) (H := H) r, ?_⟩⟩
    cases c with
    | false => exact iteF ⟨G1, en1, z, zb, en', T.sr, e2, fun v G2 H2 T2 r2 => k v G2 H2 (T.trans T2) (res_trans T r2)⟩
    | true =>
      cases e2
      exact iteT (k _ G1 H1 T (Rep.bl true))
theorem fe_not {f : Ev} (h : PE X a (FE X.K f)) : PE X (.UnaryOp .Not a pos) (FE X.K (fNot f)) := pe_imp (pe_not h) fun σ H Q ⟨G, en, z, zb, en', S, e1, k⟩ => by
  obtain ⟨⟨d, b1, en1⟩, p1, e2⟩ := Option.bind_eq_some_iff.mp e1
  cases d <;> first | (cases e2; done) | skip
  rename_i c
  cases e2
  exact ⟨G, en, _, b1, _, S, p1, fun v G1 H1 T r => ⟨c, res_bool (G := G) (H := H) r, k _ G1 H1 T (Rep.bl _)⟩⟩
def fIf (c : Tv) (f g : Ev) : Ev := fun en => (c en).bind fun x => if x.1 = true then f x.2 else g x.2
theorem fe_if {c : Expr} {t : Tv} {f g : Ev} (hc : PT X c (FT X.K t)) (ha : PE X a (FE X.K f)) (hb : PE X b (FE X.K g)) : PE X (.IfExp c a b pos) (FE X.K (fIf t f g)) := pe_imp (pe_ifExp hc ha hb) fun σ H Q ⟨G, en, z, zb, en', S, e1, k⟩ => by
  obtain ⟨⟨c1, en1⟩, p1, e2⟩ := Option.bind_eq_some_iff.mp e1
  refine ⟨G, en, c1, en1, S, p1, fun G1 H1 T => ?_⟩
  cases c1 with
  | true => exact iteT ⟨G1, en1, z, zb, en', T.sr, e2, fun v G2 H2 T2 r2 => k v G2 H2 (T.trans T2) (res_trans T r2)⟩
  | false => exact iteF ⟨G1, en1, z, zb, en', T.sr, e2, fun v G2 H2 T2 r2 => k v G2 H2 (T.trans T2) (res_trans T r2)⟩
/-- a < b < c -/
def fChain (p q : Ov) (g g' : D → D → Option (D × Bool)) (w : Ov) : Ev := fun en => (p en).bind fun x => (q x.2).bind fun y => (x.1.late y.2).bind fun d => (y.1.late y.2).bind fun e => (g d e).bind fun z => match z with
  | (.bool c, false) => if c = true then (w y.2).bind fun u => (y.1.late u.2).bind fun e => (u.1.late u.2).bind fun e' => (g' e e').map fun z => (z.1, z.2, u.2) else some (.bool false, false, y.2)
  | _ => none
theorem fe_chain {c : Expr} {op op' : CmpOp} {r r' : R2} {p q w : Ov} {g g' : D → D → Option (D × Bool)} (o : Op2 X.K r g) (o' : Op2 X.K r' g') (ho : OpR X (compareOp op) r) (ho' : OpR X (compareOp op') r') (ha : PE X a (FO X.K p)) (hb : PE X b (FO X.K q)) (hc : PE X c (FO X.K w))
    (hp : PE X (.Compare a [op, op'] [b, c] pos) (tChain r r' (FO X.K p) (FO X.K q) (FO X.K w))) : PE X (.Compare a [op, op'] [b, c] pos) (FE X.K (fChain p q g g' w)) :=
  pe_imp hp fun σ H Q ⟨G, en, z, zb, en', S, e1, k⟩ => by
    obtain ⟨⟨x, en1⟩, p1, e2⟩ := Option.bind_eq_some_iff.mp e1
    obtain ⟨⟨y, en2⟩, p2, e3⟩ := Option.bind_eq_some_iff.mp e2
    obtain ⟨d, p3, e4⟩ := Option.bind_eq_some_iff.mp e3
    obtain ⟨e, p4, e5⟩ := Option.bind_eq_some_iff.mp e4
    obtain ⟨⟨z1, b1⟩, p5, e6⟩ := Option.bind_eq_some_iff.mp e5
    refine ⟨G, en, x, en1, S, p1, fun v G1 H1 T1 r1 => ⟨G1, en1, y, en2, T1.sr, p2, fun u G2 H2 T2 r2 => ?_⟩⟩
    cases b1 with
    | true => cases z1 <;> cases e6
    | false =>
      cases z1 <;> first | (cases e6; done) | skip
      rename_i c1
      have T12 := T1.trans T2
      refine o v u d e _ _ G2 H2 _ T2.sr.sub ((r1.step T2).use T2.sr p3) (r2.use T2.sr p4) p5 fun v3 G3 H3 N F => ?_
      have T3 := N.step T2.sr
      refine ⟨c1, res_bool (G := G) (H := H2) F, ?_⟩
      cases c1 with
      | false =>
        cases e6
        exact iteF (k _ G3 H3 (T12.trans T3) (Rep.bl false))
      | true =>
        obtain ⟨⟨u1, en4⟩, q1, f2⟩ := Option.bind_eq_some_iff.mp (show ((w en2).bind fun u => (y.late u.2).bind fun e => (u.1.late u.2).bind fun e' => (g' e e').map fun z => (z.1, z.2, u.2)) = some (z, zb, en') from e6)
        obtain ⟨e8, q2, f3⟩ := Option.bind_eq_some_iff.mp f2
        obtain ⟨e9, q3, f4⟩ := Option.bind_eq_some_iff.mp f3
        obtain ⟨⟨z', b'⟩, p7, e10⟩ := Option.map_eq_some_iff.mp f4
        cases e10
        refine iteT ⟨G3, en2, u1, en4, T3.sr, q1, fun v4 G4 H4 T4 r4 => ?_⟩
        have T := (T12.trans T3).trans T4
        exact o' u v4 e8 e9 _ _ G4 H4 Q T4.sr.sub (((r2.step T3).step T4).use T4.sr q2) (r4.use T4.sr q3) p7 fun v G' H' N F => k v G' H' (T.trans (N.step T4.sr)) (F.res' T)
end
end Fx
/-! Fx3: stores, calls of own defs, statements. -/
namespace Fx
open PySem PySem.Spec L2
section
variable {K : PySem.W.Frag} {G H G1 H1 G2 H2 : Hp} {en en1 en2 : En} {σ σ1 : St}
theorem set_at {j : Nat} {x : Option (D × Fl)} {i : Nat} {y : Option (D × Fl)} (h : (en.set j x)[i]? = some y) : (i = j ∧ x = y ∧ j < en.length) ∨ (i ≠ j ∧ en[i]? = some y) := by
  by_cases hi : i = j
  · subst hi
    by_cases hl : i < en.length
    · rw [List.getElem?_set_self hl] at h
      exact .inl ⟨rfl, Option.some.inj h, hl⟩
    · rw [List.getElem?_eq_none (by simpa using hl)] at h
      cases h
  · rw [List.getElem?_set_ne (Ne.symm hi)] at h
    exact .inr ⟨hi, h⟩
/-- the object of slot j is written -/
theorem SR.write {j : Nat} {dw dw' : D} {f : Fl} {a : Addr} {o' : HO} (S : SR K G H en σ) (e : en[j]? = some (some (dw, f))) (hf : f ≠ .sh) (s : σ[j]? = some (some (.ref a))) (E : Ext (fun b => b = a) G H G1 H1) (sub : Same G1 H1) (g : G1 a = none) (h : H1 a = some o') (r : RepO K G1 o' dw') :
    Step K en (en.set j (some (dw', f))) σ G H G1 H1 := by
  have me : OwnA en σ a := ⟨j, dw, f, e, hf, s⟩
  have hj : j < en.length := (List.getElem?_eq_some_iff.mp e).1
  have back : ∀ (i : Nat) (d : D) (g : Fl), (en.set j (some (dw', f)))[i]? = some (some (d, g)) → ∃ d0, en[i]? = some (some (d0, g)) := fun i d g q => by
    rcases set_at q with ⟨rfl, q1, _⟩ | ⟨_, q1⟩
    · cases q1
      exact ⟨dw, e⟩
    · exact ⟨d, q1⟩
  refine ⟨E.weak fun b u z _ => by rw [z]; exact me, ⟨sub, by simpa using S.len, fun i d q => ?_, fun i d f' q n => ?_, fun i k d d2 f1 f2 b q1 n1 q2 n2 => ?_⟩, fun b q => ?_, fun i d q => ?_⟩
  · rcases set_at q with ⟨rfl, q1, _⟩ | ⟨_, q1⟩
    · cases q1
      exact absurd rfl hf
    · obtain ⟨v, e1, e2⟩ := S.shd i d q1
      exact ⟨v, e1, e2.mono E.g⟩
  · rcases set_at q with ⟨rfl, q1, _⟩ | ⟨hi, q1⟩
    · cases q1
      exact ⟨a, o', s, g, h, r⟩
    · obtain ⟨b, u, e1, e2, e3, e4⟩ := S.own i d f' q1 n
      have hb : b ≠ a := fun z => by
        subst z
        exact hi (S.sep i j d dw f' f b q1 n e hf e1 s)
      exact ⟨b, u, e1, E.n b u e3 hb e2, E.h b u e3 hb, e4.mono E.g⟩
  · obtain ⟨e1, q1⟩ := back i d f1 q1
    obtain ⟨e2, q2⟩ := back k d2 f2 q2
    exact S.sep i k _ _ f1 f2 b q1 n1 q2 n2
  · obtain ⟨i, d, g', q1, n, q2⟩ := q
    obtain ⟨d0, q1⟩ := back i d g' q1
    exact ⟨i, d0, g', q1, n, q2⟩
  · by_cases hi : i = j
    · subst hi
      rw [e] at q
      cases q
      exact ⟨dw', by rw [List.getElem?_set_self hj]⟩
    · exact ⟨d, by rw [List.getElem?_set_ne (Ne.symm hi)]; exact q⟩
/-- may slot i be stored into -/
def free1 (en : En) (i : Nat) : Bool := match en[i]? with
  | some (some (_, .lent)) => false
  | _ => true
def flag (b : Bool) : Fl := if b then .own else .sh
/-- a value is stored into slot i -/
theorem StepS.store {en0 : En} {σ0 : St} {G0 H0 : Hp} {i : Nat} {v : V} {d : D} {b : Bool} (T : StepS K en0 σ0 G0 H0 en σ G H) (hl : free1 en i = true) (r : Res K (OwnA en0 σ0) H0 (OwnA en σ) G H v d b) :
    StepS K en0 σ0 G0 H0 (en.set i (some (d, flag b))) (σ.set i (some v)) G H := by
  have S := T.sr
  have sσ : ∀ {k : Nat} {w : Option V}, k ≠ i → (σ.set i (some v))[k]? = some w → σ[k]? = some w := fun {k w} hk q => by rw [List.getElem?_set_ne (Ne.symm hk)] at q; exact q
  have sv : ∀ {k : Nat}, k = i → i < en.length → (σ.set i (some v))[k]? = some (some v) := fun {k} hk q => by rw [hk, List.getElem?_set_self (by rw [← S.len]; exact q)]
  have keep : ∀ {k : Nat} {w : Option V}, k ≠ i → σ[k]? = some w → (σ.set i (some v))[k]? = some w := fun {k w} hk q => by rw [List.getElem?_set_ne (Ne.symm hk)]; exact q
  have old : ∀ (k : Nat) (d2 : D) (f : Fl) (x : Addr), k ≠ i → en[k]? = some (some (d2, f)) → f ≠ .sh → (σ.set i (some v))[k]? = some (some (.ref x)) → OwnA en σ x := fun k d2 f x hk q n q2 => ⟨k, d2, f, q, n, sσ hk q2⟩
  have neu : ∀ (k : Nat) (d2 : D) (f : Fl) (x : Addr), k = i → (some (d, flag b) : Option (D × Fl)) = some (d2, f) → i < en.length → f ≠ .sh → (σ.set i (some v))[k]? = some (some (.ref x)) → (H0 x = none ∨ OwnA en0 σ0 x) ∧ ¬ OwnA en σ x ∧ ∃ o, H x = some o ∧ G x = none ∧ RepO K G o d2 := by
    intro k d2 f x hk q3 hL n q2
    rw [sv hk hL] at q2
    cases b with
    | false =>
      cases q3
      exact absurd rfl n
    | true =>
      obtain ⟨a, o, e, h1, h2, h3, h4, h5⟩ := r
      cases q3
      rw [e] at q2
      cases q2
      exact ⟨h1, h2, o, h3, h4, h5⟩
  refine ⟨T.ext, ⟨S.sub, by simpa using S.len, fun k d2 q => ?_, fun k d2 f q n => ?_, fun k l d2 d3 f g x q1 n1 q2 n2 s1 s2 => ?_⟩, fun x q => ?_, fun k d2 q => ?_⟩
  · rcases set_at q with ⟨hk, q1, hL⟩ | ⟨hk, q1⟩
    · cases b with
      | true => cases q1
      | false =>
        cases q1
        exact ⟨v, sv hk hL, r⟩
    · obtain ⟨w, e1, e2⟩ := S.shd k d2 q1
      exact ⟨w, keep hk e1, e2⟩
  · rcases set_at q with ⟨hk, q1, hL⟩ | ⟨hk, q1⟩
    · cases b with
      | false =>
        cases q1
        exact absurd rfl n
      | true =>
        obtain ⟨a, o, e, _, _, h3, h4, h5⟩ := r
        cases q1
        exact ⟨a, o, by rw [sv hk hL, e], h4, h3, h5⟩
    · obtain ⟨a, o, e1, e2, e3, e4⟩ := S.own k d2 f q1 n
      exact ⟨a, o, keep hk e1, e2, e3, e4⟩
  · rcases set_at q1 with ⟨hk, q3, hL⟩ | ⟨hk, q3⟩
    · rcases set_at q2 with ⟨hl2, _, _⟩ | ⟨hl2, q4⟩
      · rw [hk, hl2]
      · exact ((neu k d2 f x hk q3 hL n1 s1).2.1 (old l d3 g x hl2 q4 n2 s2)).elim
    · rcases set_at q2 with ⟨hl2, q4, hL⟩ | ⟨hl2, q4⟩
      · exact ((neu l d3 g x hl2 q4 hL n2 s2).2.1 (old k d2 f x hk q3 n1 s1)).elim
      · exact S.sep k l d2 d3 f g x q3 n1 q4 n2 (sσ hk s1) (sσ hl2 s2)
  · obtain ⟨k, d2, f, q1, n, q2⟩ := q
    rcases set_at q1 with ⟨hk, q3, hL⟩ | ⟨hk, q3⟩
    · exact (neu k d2 f x hk q3 hL n q2).1.symm
    · exact T.own x (old k d2 f x hk q3 n q2)
  · obtain ⟨⟨d', e1⟩, e2⟩ := T.lent k d2 q
    have hk : k ≠ i := fun z => by
      subst z
      unfold free1 at hl
      rw [e1] at hl
      cases hl
    exact ⟨⟨d', by rw [List.getElem?_set_ne (Ne.symm hk)]; exact e1⟩, by rw [List.getElem?_set_ne (Ne.symm hk)]; exact e2⟩
/-- who is another one stays nobody's -/
theorem own_store {i : Nat} {v : V} {d : D} {f : Fl} {x : Addr} (S : SR K G H en σ) (h : OwnA (en.set i (some (d, f))) (σ.set i (some v)) x) : v = .ref x ∨ OwnA en σ x := by
  obtain ⟨k, d2, g, q1, n, q2⟩ := h
  rcases set_at q1 with ⟨hk, _, hL⟩ | ⟨hk, q3⟩
  · rw [hk, List.getElem?_set_self (by rw [← S.len]; exact hL)] at q2
    cases q2
    exact .inl rfl
  · rw [List.getElem?_set_ne (Ne.symm hk)] at q2
    exact .inr ⟨k, d2, g, q3, n, q2⟩
theorem resS {G3 H3 : Hp} {en2 : En} {σ2 : St} {v : V} {d : D} {b : Bool} (T : StepS K en σ G H en1 σ1 G1 H1) (r : Res K (OwnA en1 σ1) H1 (OwnA en2 σ2) G3 H3 v d b) : Res K (OwnA en σ) H (OwnA en2 σ2) G3 H3 v d b := by
  cases b with
  | false => exact r
  | true =>
    obtain ⟨a, o, e, q1, q2, q3, q4, q5⟩ := r
    refine ⟨a, o, e, ?_, q2, q3, q4, q5⟩
    rcases q1 with q1 | q1
    · exact .inl (T.ext.t a q1)
    · exact (T.own a q1).symm
end

/-! ### own defs -/
/-- a def that writes none of its arguments -/
def sp0 (K : PySem.W.Frag) (np : Nat) (F : List D → Option (D × Bool)) : Sp := fun vs H Q _ => ∃ G ds d b, Same G H ∧ Reps K G vs ds ∧ ds.length = np ∧ F ds = some (d, b) ∧ ∀ v G' H', New G H G' H' → Fresh K H G' H' v d b → Q v H'
/-- a def that writes its first argument -/
def spW (K : PySem.W.Frag) (np : Nat) (F : D → List D → Option (D × Bool × D)) : Sp := fun vs H Q _ => ∃ G a o dw ws ds d b dw', vs = .ref a :: ws ∧ Same G H ∧ G a = none ∧ H a = some o ∧ RepO K G o dw ∧ Reps K G ws ds ∧ ds.length = np ∧ F dw ds = some (d, b, dw') ∧
  ∀ v G' H' o', Ext (fun x => x = a) G H G' H' → Same G' H' → G' a = none → H' a = some o' → RepO K G' o' dw' → Res K (fun x => x = a) H (fun x => x = a) G' H' v d b → Q v H'
def ini (n : Nat) (ds : List D) : En := ds.map (fun d => some (d, Fl.sh)) ++ List.replicate (n - ds.length) none
def mk0 (n : Nat) (g : Sv) (ds : List D) : Option (D × Bool) := (g (ini n ds)).bind fun x => match x.1 with
  | .rt d b => some (d, b)
  | .nx => some (.none, false)
  | _ => none
def lentAt (en : En) (i : Nat) : Option D := match en[i]? with
  | some (some (d, .lent)) => some d
  | _ => none
theorem lentAt_of {en : En} {i : Nat} {d : D} (h : lentAt en i = some d) : en[i]? = some (some (d, .lent)) := by
  unfold lentAt at h
  split at h
  · rename_i d' q
    cases h
    exact q
  · cases h
def mkW (n : Nat) (g : Sv) (dw : D) (ds : List D) : Option (D × Bool × D) := (g (some (dw, Fl.lent) :: ini (n - 1) ds)).bind fun x => (lentAt x.2 0).bind fun dw' => match x.1 with
  | .rt d b => some (d, b, dw')
  | .nx => some (.none, false, dw')
  | _ => none
def fCall (np : Nat) (l : Lv) (F : List D → Option (D × Bool)) : Ev := fun en => (l en).bind fun x => if x.1.length = np then (F x.1).map fun z => (z.1, z.2, x.2) else none
def isOwn (en : En) (j : Nat) : Bool := match en[j]? with
  | some (some (_, .own)) => true
  | some (some (_, .lent)) => true
  | _ => false
theorem isOwn_of {en : En} {j : Nat} (h : isOwn en j = true) : ∃ d f, en[j]? = some (some (d, f)) ∧ f ≠ .sh := by
  unfold isOwn at h
  split at h
  · rename_i d q
    exact ⟨d, _, q, by decide⟩
  · rename_i d q
    exact ⟨d, _, q, by decide⟩
  · cases h
def fCallW (np j : Nat) (l : Lv) (F : D → List D → Option (D × Bool × D)) : Ev := fun en => if isOwn en j = true then (l en).bind fun x => match x.2[j]? with
  | some (some (dw, f)) => if f = .sh then none else if x.1.length = np then (F dw x.1).map fun z => (z.1, z.2.1, x.2.set j (some (z.2.2, f))) else none
  | _ => none
  else none
theorem getSlot {en : En} {j : Nat} {α : Type} {k : D → Fl → Option α} {z : α} (h : (match en[j]? with
  | some (some (dw, f)) => k dw f
  | _ => none) = some z) : ∃ dw f, en[j]? = some (some (dw, f)) ∧ k dw f = some z := by
  split at h
  · rename_i dw f q
    exact ⟨dw, f, q, h⟩
  · cases h
theorem ite_some {α : Type} {c : Prop} [Decidable c] {a : Option α} {z : α} (h : (if c then a else none) = some z) : c ∧ a = some z := by
  by_cases hc : c
  · rw [if_pos hc] at h
    exact ⟨hc, h⟩
  · rw [if_neg hc] at h
    cases h
theorem ite_none {α : Type} {c : Prop} [Decidable c] {a : Option α} {z : α} (h : (if c then none else a) = some z) : ¬ c ∧ a = some z := by
  by_cases hc : c
  · rw [if_pos hc] at h
    cases h
  · rw [if_neg hc] at h
    exact ⟨hc, h⟩
section
variable {X : Cx} {k : Nat} {f : Addr} {fd : FuncData} {ps : List Str} {np : Nat} {x : Str} {p pos : Pos} {e : Expr} {es : List Expr}
theorem fe_call {l : Lv} {F0 : List D → Option (D × Bool)} (F : FnOk X.prog X.w X.K X.mg X.base CX0 k f fd ps (sp0 X.K np F0)) (hr : Room k X.A) (hm : X.mg x = some (.ref f)) (hk : PySem.W.keepIn X.K (.ref f) = true) (hb : Binds X.K fd ps []) (ha : PA X (e :: es) (FL X.K l))
    (hg : Gl X x := by rfl) (hdb : (x == ("__debug__" : Str)) = false := by decide) (he : starEach (e :: es) X.env = (false, eval e X.env) :: starEach es X.env := by rfl) (hpl : (backTo pos (starEach es X.env)).any (·.1) = false := by rfl) : PE X (.Call (.Name x p) (e :: es) [] pos) (FE X.K (fCall np l F0)) :=
  pe_imp (pe_call F hr hg hm hk hb .nil (E := fun _ _ _ => False) (fun _ _ _ _ _ _ _ z => z.elim) ha hdb he hpl) fun σ H Q ⟨G, en, d, b, en', S, e1, k⟩ => by
    obtain ⟨⟨ds, en1⟩, p1, e2⟩ := Option.bind_eq_some_iff.mp e1
    obtain ⟨hl, e3⟩ := ite_some e2
    obtain ⟨⟨z, b'⟩, p5, e6⟩ := Option.map_eq_some_iff.mp e3
    cases e6
    refine ⟨G, en, ds, en1, S, p1, fun vs G1 H1 T r => ?_⟩
    exact ⟨G1, ds, _, _, T.sr.sub, by rw [List.append_nil]; exact r, hl, p5, fun v G' H' N F => k v G' H' (T.trans (N.step T.sr)) (F.res' T)⟩
/-- f(): no argument -/
theorem fe_call0 {F0 : List D → Option (D × Bool)} (F : FnOk X.prog X.w X.K X.mg X.base CX0 k f fd ps (sp0 X.K np F0)) (hr : Room k X.A) (hm : X.mg x = some (.ref f)) (hk : PySem.W.keepIn X.K (.ref f) = true) (hb : Binds X.K fd ps [])
    (hg : Gl X x := by rfl) (hdb : (x == ("__debug__" : Str)) = false := by decide) : PE X (.Call (.Name x p) [] [] pos) (FE X.K (fCall np lNil F0)) :=
  pe_imp (pe_call0 F hr hg hm hk hb .nil (E := fun _ _ _ => False) (fun _ _ _ _ _ _ _ z => z.elim) hdb) fun σ H Q ⟨G, en, d, b, en', S, e1, k⟩ => by
    obtain ⟨⟨ds, en1⟩, p1, e2⟩ := Option.bind_eq_some_iff.mp e1
    obtain ⟨hl, e3⟩ := ite_some e2
    obtain ⟨⟨z, b'⟩, p5, e6⟩ := Option.map_eq_some_iff.mp e3
    cases e6
    cases p1
    exact ⟨G, [], _, _, S.sub, .nil, hl, p5, fun v G' H' N F => k v G' H' (N.step S) (F.res S)⟩
theorem fe_callW {l : Lv} {j : Nat} {F0 : D → List D → Option (D × Bool × D)} (F : FnOk X.prog X.w X.K X.mg X.base CX0 k f fd ps (spW X.K np F0)) (hr : Room k X.A) (hm : X.mg x = some (.ref f)) (hk : PySem.W.keepIn X.K (.ref f) = true) (hb : Binds X.K fd ps []) (hw : PE X e (tVar j)) (ha : PA X es (FL X.K l))
    (hg : Gl X x := by rfl) (hdb : (x == ("__debug__" : Str)) = false := by decide) (he : starEach (e :: es) X.env = (false, eval e X.env) :: starEach es X.env := by rfl) (hpl : (backTo pos (starEach es X.env)).any (·.1) = false := by rfl) : PE X (.Call (.Name x p) (e :: es) [] pos) (FE X.K (fCallW np j l F0)) :=
  pe_imp (pe_call F hr hg hm hk hb .nil (E := fun _ _ _ => False) (fun _ _ _ _ _ _ _ z => z.elim) (pa_cons hw ha he) hdb he hpl) fun σ H Q ⟨G, en, d, b, en', S, e1, k⟩ => by
    obtain ⟨h0, e1⟩ := ite_some e1
    obtain ⟨⟨ds, en1⟩, p1, e2⟩ := Option.bind_eq_some_iff.mp e1
    obtain ⟨dw, fl, q1, e3⟩ := getSlot e2
    obtain ⟨hf, e4⟩ := ite_none e3
    obtain ⟨hl, e5⟩ := ite_some e4
    obtain ⟨⟨z, b', dw'⟩, p5, e6⟩ := Option.map_eq_some_iff.mp e5
    cases e6
    obtain ⟨d0, f0, h1, h2⟩ := isOwn_of h0
    obtain ⟨a, o0, q2, _⟩ := S.own j d0 f0 h1 h2
    refine ⟨_, q2, G, en, ds, en1, S, p1, fun vs G1 H1 T r => ?_⟩
    obtain ⟨a', o, s1, s2, s3, s4⟩ := T.sr.own j dw fl q1 hf
    rw [q2] at s1
    cases s1
    refine ⟨G1, a, o, dw, vs, ds, z, b', dw', (List.append_nil _).trans rfl, T.sr.sub, s2, s3, s4, r, hl, p5, fun v G' H' o' E sub g h ro R => ?_⟩
    have W := SR.write T.sr q1 hf q2 E sub g h ro
    refine k v G' H' (T.trans W) ?_
    cases b' with
    | false => exact R
    | true =>
      obtain ⟨c, u, e, w1, w2, w3, w4, w5⟩ := R
      have hn : H1 c = none := w1.resolve_right w2
      refine ⟨c, u, e, .inl (T.ext.t c hn), fun q => ?_, w3, w4, w5⟩
      obtain ⟨y, e7, _⟩ := T.sr.there (W.own c q)
      rw [hn] at e7
      cases e7
end
end Fx
/-! Fx4: statements, loops, bodies of defs. -/
namespace Fx
open PySem PySem.Spec L2
/-! ### blocks -/
def sNx : Sv := fun en => some (.nx, en)
def sSeq (a b : Sv) : Sv := fun en => (a en).bind fun x => match x.1 with
  | .nx => b x.2
  | o => some (o, x.2)
section
variable {X : Cx} {st : Stmt} {rest : List Stmt} {pos : Pos} {e : Expr} {K : PySem.W.Frag}
theorem outR {D : Ends} {G H G1 H1 : Hp} {en en1 en2 : En} {σ σ1 : St} {o : Out} (T : StepS K en σ G H en1 σ1 G1 H1) (h : OutR K D en σ G H en2 o) : OutR K D en1 σ1 G1 H1 en2 o := by
  cases o with
  | nx => exact fun G' H' σ' T' => h G' H' σ' (T.trans T')
  | bk => exact fun G' H' σ' T' => h G' H' σ' (T.trans T')
  | ct => exact fun G' H' σ' T' => h G' H' σ' (T.trans T')
  | rt d b => exact fun v G' H' σ' T' r => h v G' H' σ' (T.trans T') (resS T r)
theorem fs_nil : PSs X [] (FS X.K sNx) := pss_imp pss_nil fun D σ H ⟨G, en, o, en', S, e1, k⟩ => by
  cases e1
  exact k G H σ (StepS.refl S)
theorem fs_cons {a b : Sv} (h1 : PS X st (FS X.K a)) (h2 : PSs X rest (FS X.K b)) : PSs X (st :: rest) (FS X.K (sSeq a b)) := pss_imp (pss_cons h1 h2) fun D σ H ⟨G, en, o, en', S, e1, k⟩ => by
  obtain ⟨⟨o1, en1⟩, p1, e2⟩ := Option.bind_eq_some_iff.mp e1
  cases o1 with
  | nx => exact ⟨G, en, .nx, en1, S, p1, fun G1 H1 σ1 T => ⟨G1, en1, o, en', T.sr, e2, outR T k⟩⟩
  | bk => cases e2; exact ⟨G, en, .bk, _, S, p1, k⟩
  | ct => cases e2; exact ⟨G, en, .ct, _, S, p1, k⟩
  | rt d b => cases e2; exact ⟨G, en, .rt d b, _, S, p1, k⟩
theorem fs_one {a : Sv} (h : PS X st (FS X.K a)) : PSs X [st] (FS X.K a) := pss_one h
def sBreak : Sv := fun en => some (.bk, en)
def sCont : Sv := fun en => some (.ct, en)
theorem fs_pass : PS X (.Pass pos) (FS X.K sNx) := ps_imp ps_pass fun D σ H ⟨G, en, o, en', S, e1, k⟩ => by
  cases e1
  exact k G H σ (StepS.refl S)
theorem fs_break : PS X (.Break pos) (FS X.K sBreak) := ps_imp ps_break fun D σ H ⟨G, en, o, en', S, e1, k⟩ => by
  cases e1
  exact k G H σ (StepS.refl S)
theorem fs_continue : PS X (.Continue pos) (FS X.K sCont) := ps_imp ps_continue fun D σ H ⟨G, en, o, en', S, e1, k⟩ => by
  cases e1
  exact k G H σ (StepS.refl S)
def sExpr (f : Ev) : Sv := fun en => (f en).map fun x => (.nx, x.2.2)
theorem fs_expr {f : Ev} (h : PE X e (FE X.K f)) (hs : swapsWith e none pos.line X.env = pure false := by rfl) : PS X (.Expr e pos) (FS X.K (sExpr f)) := ps_imp (ps_expr h hs) fun D σ H ⟨G, en, o, en', S, e1, k⟩ => by
  obtain ⟨⟨d, b, en1⟩, p1, e2⟩ := Option.map_eq_some_iff.mp e1
  cases e2
  exact ⟨G, en, d, b, en1, S, p1, fun v G1 H1 T _ => k G1 H1 σ T.s⟩
def sRet (f : Ev) : Sv := fun en => (f en).map fun x => (.rt x.1 x.2.1, x.2.2)
theorem fs_ret {f : Ev} (h : PE X e (FE X.K f)) : PS X (.Return (some e) pos) (FS X.K (sRet f)) := ps_imp (ps_ret h) fun D σ H ⟨G, en, o, en', S, e1, k⟩ => by
  obtain ⟨⟨d, b, en1⟩, p1, e2⟩ := Option.map_eq_some_iff.mp e1
  cases e2
  exact ⟨G, en, d, b, en1, S, p1, fun v G1 H1 T r => k v G1 H1 σ T.s r⟩
def sRetN : Sv := fun en => some (.rt .none false, en)
theorem fs_retN : PS X (.Return none pos) (FS X.K sRetN) := ps_imp ps_retN fun D σ H ⟨G, en, o, en', S, e1, k⟩ => by
  cases e1
  exact k _ G H σ (StepS.refl S) Rep.non
/-- return x: what x owns is handed on -/
def sRetX (i : Nat) : Sv := fun en => match en[i]? with
  | some (some (d, .sh)) => some (.rt d false, en)
  | some (some (d, .own)) => some (.rt d true, en.set i none)
  | _ => none
theorem fs_retX {i : Nat} (h : PE X e (tVar i)) : PS X (.Return (some e) pos) (FS X.K (sRetX i)) := ps_imp (ps_ret h) fun D σ H ⟨G, en, o, en', S, e1, k⟩ => by
  unfold sRetX at e1
  split at e1
  · rename_i d q
    cases e1
    obtain ⟨v, s1, s2⟩ := S.shd i d q
    exact ⟨v, s1, k v G H σ (StepS.refl S) s2⟩
  · rename_i d q
    cases e1
    obtain ⟨a, u, s1, s2, s3, s4⟩ := S.own i d .own q (by decide)
    have hi : i < en.length := (List.getElem?_eq_some_iff.mp q).1
    have back : ∀ (j : Nat) (d2 : Fx.D) (f : Fl), (en.set i none)[j]? = some (some (d2, f)) → j ≠ i ∧ en[j]? = some (some (d2, f)) := fun j d2 f w => by
      rcases set_at w with ⟨_, w1, _⟩ | ⟨w1, w2⟩
      · cases w1
      · exact ⟨w1, w2⟩
    refine ⟨_, s1, k _ G H σ ⟨Ext.refl, ⟨S.sub, by simpa using S.len, fun j d2 w => S.shd j d2 (back j d2 _ w).2, fun j d2 f w n => S.own j d2 f (back j d2 f w).2 n, fun j l d2 d3 f g x w1 n1 w2 n2 => S.sep j l d2 d3 f g x (back j d2 f w1).2 n1 (back l d3 g w2).2 n2⟩,
      fun b ⟨j, d2, f, w, n, z⟩ => .inl ⟨j, d2, f, (back j d2 f w).2, n, z⟩, fun j d2 w => ⟨⟨d2, ?_⟩, rfl⟩⟩ ⟨a, u, rfl, .inr ⟨i, d, .own, q, by decide, s1⟩, ?_, s3, s2, s4⟩⟩
    · have hj : j ≠ i := fun z => by
        rw [z, q] at w
        cases w
      rw [List.getElem?_set_ne (Ne.symm hj)]
      exact w
    · rintro ⟨j, d2, f, w, n, z⟩
      obtain ⟨w1, w2⟩ := back j d2 f w
      exact w1 (S.sep j i d2 d f .own a w2 n q (by decide) z s1)
  · cases e1
def sIf (t : Tv) (a b : Sv) : Sv := fun en => (t en).bind fun x => if x.1 = true then a x.2 else b x.2
theorem fs_if {c : Expr} {p q : List Stmt} {t : Tv} {a b : Sv} (hc : PT X c (FT X.K t)) (ha : PSs X p (FS X.K a)) (hb : PSs X q (FS X.K b)) : PS X (.If c p q pos) (FS X.K (sIf t a b)) := ps_imp (ps_if hc ha hb) fun D σ H ⟨G, en, o, en', S, e1, k⟩ => by
  obtain ⟨⟨c1, en1⟩, p1, e2⟩ := Option.bind_eq_some_iff.mp e1
  refine ⟨G, en, c1, en1, S, p1, fun G1 H1 T => ?_⟩
  cases c1 with
  | true => exact iteT ⟨G1, en1, o, en', T.sr, e2, outR T.s k⟩
  | false => exact iteF ⟨G1, en1, o, en', T.sr, e2, outR T.s k⟩
/-! ### stores -/
def sSet (i : Nat) (f : Ev) : Sv := fun en => (f en).bind fun x => if free1 x.2.2 i = true then some (.nx, x.2.2.set i (some (x.1, flag x.2.1))) else none
theorem asg_name {i : Nat} {f : Ev} {D : Ends} {σ : St} {H : Hp} (h : FS K (sSet i f) D σ H) : tAsg (FE K f) (gName i) D σ H := by
  obtain ⟨G, en, o, en', S, e1, k⟩ := h
  obtain ⟨⟨d, b, en1⟩, p1, e2⟩ := Option.bind_eq_some_iff.mp e1
  obtain ⟨hl, e3⟩ := ite_some e2
  cases e3
  exact ⟨G, en, d, b, en1, S, p1, fun v G1 H1 T r => k G1 H1 _ (T.s.store hl r)⟩
theorem fs_set {i : Nat} {x : Str} {f : Ev} {pos' : Pos} (hN : X.N.Nodup) (he : PE X e (FE X.K f)) (hi : X.N[i]? = some x := by rfl) (hx : Loc X.env.scope x := by first | exact .inl rfl | exact .inr rfl) (hs : swapsWith e (some (.Name x pos')) pos.line X.env = pure false := by rfl) (hf : X.fn x = true ∨ X.env.scope.names.lookup x = some .local := by first | exact .inl rfl | exact .inr rfl | assumption) :
    PS X (.Assign [.Name x pos'] e pos) (FS X.K (sSet i f)) := ps_imp (ps_set hN hi hx he hs hf) fun D σ H h => asg_name h
/-- x += e of ints -/
def sAug (i : Nat) (f : Ev) (g : D → D → Option D) : Sv := fun en => (peek en i).bind fun d0 => (f en).bind fun x => if free1 x.2.2 i = true then (g d0 x.1).map fun z => (.nx, x.2.2.set i (some (z, .sh))) else none
/-! ### targets -/
abbrev Gv := D → En → Option En
/-- a step that stores shared values alone -/
structure StepG (K : PySem.W.Frag) (en : En) (σ : St) (G H : Hp) (en' : En) (σ' : St) (G' H' : Hp) : Prop where
  ext : Ext (OwnA en σ) G H G' H'
  sr : SR K G' H' en' σ'
  own : ∀ b, OwnA en' σ' b → OwnA en σ b
  lent : ∀ (i : Nat) (d : D), en[i]? = some (some (d, .lent)) → (∃ d', en'[i]? = some (some (d', .lent))) ∧ σ'[i]? = σ[i]?
theorem StepG.refl {G H : Hp} {en : En} {σ : St} (S : SR K G H en σ) : StepG K en σ G H en σ G H := ⟨Ext.refl, S, fun _ h => h, fun _ d e => ⟨⟨d, e⟩, rfl⟩⟩
theorem StepG.trans {G H G1 H1 G2 H2 : Hp} {en en1 en2 : En} {σ σ1 σ2 : St} (a : StepG K en σ G H en1 σ1 G1 H1) (b : StepG K en1 σ1 G1 H1 en2 σ2 G2 H2) : StepG K en σ G H en2 σ2 G2 H2 :=
  ⟨a.ext.trans b.ext fun x h => .inl (a.own x h), b.sr, fun x h => a.own x (b.own x h), fun i d e => by
    obtain ⟨⟨d', e'⟩, s⟩ := a.lent i d e
    obtain ⟨l, s'⟩ := b.lent i d' e'
    exact ⟨l, s'.trans s⟩⟩
theorem StepG.s {G H G1 H1 : Hp} {en en1 : En} {σ σ1 : St} (a : StepG K en σ G H en1 σ1 G1 H1) : StepS K en σ G H en1 σ1 G1 H1 := ⟨a.ext, a.sr, fun b h => .inl (a.own b h), a.lent⟩
theorem step_g {G H G1 H1 : Hp} {en en1 : En} {σ : St} (a : Step K en en1 σ G H G1 H1) : StepG K en σ G H en1 σ G1 H1 := ⟨a.ext, a.sr, a.own, fun i d e => ⟨a.lent i d e, rfl⟩⟩
theorem StepG.put {G H : Hp} {en : En} {σ : St} {i : Nat} {v : V} {d : D} (S : SR K G H en σ) (hl : free1 en i = true) (r : Rep K G v d) : StepG K en σ G H (en.set i (some (d, .sh))) (σ.set i (some v)) G H := by
  have T := StepS.store (b := false) (StepS.refl S) hl r
  refine ⟨T.ext, T.sr, fun b h => ?_, T.lent⟩
  obtain ⟨j, d2, f, q, n, z⟩ := h
  rcases set_at q with ⟨_, w, _⟩ | ⟨hj, w⟩
  · cases w
    exact absurd rfl n
  · rw [List.getElem?_set_ne (Ne.symm hj)] at z
    exact ⟨j, d2, f, w, n, z⟩
/-- all slots but ts stand -/
def Off (ts : List Nat) (σ σ' : St) : Prop := σ'.length = σ.length ∧ ∀ i, i ∉ ts → σ'[i]? = σ[i]?
/-- what a target is given: any shared value; or a tuple of such, its standing of no matter (a pair that an iterator made) -/
abbrev Given := PySem.W.Frag → Hp → V → D → Prop
def RepP : Given := fun K G v d => ∃ a xs ds, v = .ref a ∧ d = .tuple ds ∧ SqT K G a xs ∧ Reps K G xs ds
def FG (R : Given) (K : PySem.W.Frag) (ts : List Nat) (s : Gv) : TG := fun v σ H Q => ∃ G en d en', SR K G H en σ ∧ R K G v d ∧ s d en = some en' ∧ ∀ σ' G' H', StepG K en σ G H en' σ' G' H' → Off ts σ σ' → Q σ' H'
def FGs (K : PySem.W.Frag) (ts : List Nat) (s : List D → En → Option En) : TGs := fun vs σ H Q => ∃ G en ds en', SR K G H en σ ∧ Reps K G vs ds ∧ s ds en = some en' ∧ ∀ σ' G' H', StepG K en σ G H en' σ' G' H' → Off ts σ σ' → Q σ' H'
theorem pg_imp {t t' : TG} (h : PG X e t) (k : ∀ v σ H Q, t' v σ H Q → t v σ H Q) : PG X e t' := ⟨fun pins s σ H v u Q I r q => h.run pins s σ H v u Q I r (k _ _ _ _ q)⟩
theorem pgs_imp {es : List Expr} {t t' : TGs} (h : PGs X es t) (k : ∀ v σ H Q, t' v σ H Q → t v σ H Q) : PGs X es t' := ⟨fun pins s σ H v u Q I r q => h.run pins s σ H v u Q I r (k _ _ _ _ q)⟩
def gN (i : Nat) : Gv := fun d en => if free1 en i = true then some (en.set i (some (d, .sh))) else none
def gsNil : List D → En → Option En := fun ds en => match ds with
  | [] => some en
  | _ => none
def gsCons (s : Gv) (r : List D → En → Option En) : List D → En → Option En := fun ds en => match ds with
  | d :: ds => (s d en).bind (r ds)
  | _ => none
def gT (n : Nat) (r : List D → En → Option En) : Gv := fun d en => match d with
  | .tuple ds => if ds.length = n then r ds en else none
  | _ => none
theorem fg_g {i : Nat} (h : PG X e (gName i)) : PG X e (FG Rep X.K [i] (gN i)) := pg_imp h fun v σ H Q ⟨G, en, d, en', S, r, e1, k⟩ => by
  obtain ⟨hl, e2⟩ := ite_some e1
  cases e2
  exact k _ G H (StepG.put S hl r) ⟨List.length_set, fun j hj => List.getElem?_set_ne fun z => hj (by rw [z]; exact List.mem_singleton_self _)⟩
theorem fg_name {i : Nat} {x : Str} (hN : X.N.Nodup) (hi : X.N[i]? = some x := by rfl) (hx : Loc X.env.scope x := by first | exact .inl rfl | exact .inr rfl) (hf : X.fn x = true ∨ X.env.scope.names.lookup x = some .local := by first | exact .inl rfl | exact .inr rfl | assumption) : PG X (.Name x pos) (FG Rep X.K [i] (gN i)) :=
  fg_g (pg_name hN hi hx hf)
theorem fgs_nil : PGs X [] (FGs X.K [] gsNil) := pgs_imp pgs_nil fun vs σ H Q ⟨G, en, ds, en', S, r, e1, k⟩ => by
  cases r with
  | nil =>
    cases e1
    exact ⟨rfl, k σ G H (StepG.refl S) ⟨rfl, fun _ _ => rfl⟩⟩
  | cons _ _ => cases e1
theorem fgs_cons {es : List Expr} {s : Gv} {t1 t2 : List Nat} {r : List D → En → Option En} (h1 : PG X e (FG Rep X.K t1 s)) (h2 : PGs X es (FGs X.K t2 r)) (hs : (assignEach (e :: es) X.env).map (·.2) = assign e X.env :: (assignEach es X.env).map (·.2) := by rfl) : PGs X (e :: es) (FGs X.K (t1 ++ t2) (gsCons s r)) :=
  pgs_imp (pgs_cons h1 h2 hs) fun vs σ H Q ⟨G, en, ds, en', S, rr, e1, k⟩ => by
    cases rr with
    | nil => cases e1
    | cons h t =>
      obtain ⟨en1, p1, p2⟩ := Option.bind_eq_some_iff.mp e1
      exact ⟨_, _, rfl, G, en, _, en1, S, h, p1, fun σ1 G1 H1 T k1 => ⟨G1, en1, _, en', T.sr, t.mono T.ext.g, p2, fun σ2 G2 H2 T2 k2 => k σ2 G2 H2 (T.trans T2) ⟨k2.1.trans k1.1, fun i hi => (k2.2 i fun z => hi (List.mem_append_right _ z)).trans (k1.2 i fun z => hi (List.mem_append_left _ z))⟩⟩⟩
theorem fg_pair {es : List Expr} {k1 : Nat} {ts : List Nat} {r : List D → En → Option En} {n : Nat} (hc : X.calm = true) (h : PGs X es (FGs X.K ts r)) (hn : (assignEach es X.env).length = n := by rfl) (hst : (assignEach es X.env).findIdx? (·.1) = none := by rfl) : PG X (.Tuple es k1 pos) (FG RepP X.K ts (gT n r)) :=
  pg_imp (pg_tup hc h hn hst) fun v σ H Q ⟨G, en, d, en', S, ⟨a, xs, ds, e3, e4, h1, h2⟩, e1, k⟩ => by
    subst e4
    obtain ⟨hl, e2⟩ := ite_some (show (if ds.length = n then r ds en else none) = some en' from e1)
    exact ⟨a, xs, e3, seqT S.sub h1, h2.length.trans hl, G, en, ds, en', S, h2, e2, k⟩
theorem fg_tup {es : List Expr} {k1 : Nat} {ts : List Nat} {r : List D → En → Option En} {n : Nat} (hc : X.calm = true) (h : PGs X es (FGs X.K ts r)) (hn : (assignEach es X.env).length = n := by rfl) (hst : (assignEach es X.env).findIdx? (·.1) = none := by rfl) : PG X (.Tuple es k1 pos) (FG Rep X.K ts (gT n r)) :=
  pg_imp (pg_tup hc h hn hst) fun v σ H Q ⟨G, en, d, en', S, rr, e1, k⟩ => by
    cases d <;> first | (cases e1; done) | skip
    rename_i ds
    obtain ⟨hl, e2⟩ := ite_some (show (if ds.length = n then r ds en else none) = some en' from e1)
    cases rr with
    | tup h1 h2 => exact ⟨_, _, rfl, seqT S.sub h1.sq, h2.length.trans hl, G, en, ds, en', S, h2, e2, k⟩
def sAsg (f : Vv) (s : Gv) : Sv := fun en => (f en).bind fun x => (s x.1 x.2).map fun e' => (.nx, e')
theorem fs_asg {tg : Expr} {f : Vv} {ts : List Nat} {s : Gv} (he : PE X e (FV X.K f)) (hg : PG X tg (FG Rep X.K ts s)) (hs : swapsWithSole [tg] e pos.line X.env = pure false := by rfl) (hw : swappedStores [tg] e X.env = pure none := by rfl) (h1 : (assignEach [tg] X.env).map (·.2) = [assign tg X.env] := by rfl) :
    PS X (.Assign [tg] e pos) (FS X.K (sAsg f s)) := ps_imp (ps_asg he hg hs hw h1) fun D σ H ⟨G, en, o, en', S, e1, k⟩ => by
  obtain ⟨⟨d, en1⟩, p1, e2⟩ := Option.bind_eq_some_iff.mp e1
  obtain ⟨en2, p2, e3⟩ := Option.map_eq_some_iff.mp e2
  cases e3
  exact ⟨G, en, d, en1, S, p1, fun v G1 H1 T r => ⟨G1, en1, d, _, T.sr, r, p2, fun σ2 G2 H2 T2 _ => k G2 H2 σ2 (T.s.trans T2.s)⟩⟩

/-! ### while -/
def whileL (t : Tv) (b : Sv) : Nat → Sv
  | 0 => fun _ => none
  | n + 1 => fun en => (t en).bind fun x => if x.1 = true then (b x.2).bind fun y => match y.1 with
    | .nx => whileL t b n y.2
    | .ct => whileL t b n y.2
    | .bk => some (.nx, y.2)
    | .rt d c => some (.rt d c, y.2)
    else some (.nx, x.2)
theorem fs_while {c : Expr} {body : List Stmt} {t : Tv} {b : Sv} {n : Nat} (hp : PassesOwn (model X.prog X.w) X.A X.env X.xe) (hc : PT X c (FT X.K t)) (hb : PSs X body (FS X.K b)) : PS X (.While c body [] pos) (FS X.K (whileL t b n)) := ps_imp (ps_while hp hc hb) fun D σ H ⟨G, en, o, en', S, e1, k⟩ => by
  refine ⟨fun m σ1 H1 => ∃ G1 en1, StepS X.K en σ G H en1 σ1 G1 H1 ∧ whileL t b m en1 = some (o, en'), ⟨n, G, en, StepS.refl S, e1⟩, ?_⟩
  rintro m σ1 H1 ⟨G1, en1, T, w⟩
  cases m with
  | zero => cases w
  | succ m =>
    obtain ⟨⟨c1, en2⟩, p1, e2⟩ := Option.bind_eq_some_iff.mp (show ((t en1).bind fun x => if x.1 = true then (b x.2).bind fun y => match y.1 with
      | .nx => whileL t b m y.2
      | .ct => whileL t b m y.2
      | .bk => some (.nx, y.2)
      | .rt d c => some (.rt d c, y.2)
      else some (.nx, x.2)) = some (o, en') from w)
    refine ⟨G1, en1, c1, en2, T.sr, p1, fun G2 H2 T2 => ?_⟩
    have T12 := T.trans T2.s
    cases c1 with
    | false =>
      cases e2
      exact iteF (k G2 H2 σ1 T12)
    | true =>
      refine iteT ⟨fun σ' H' => ∃ G' e', StepS X.K en σ G H e' σ' G' H' ∧ whileL t b m e' = some (o, en'), fun σ' H' ⟨G', e', T', w'⟩ => ⟨m, Nat.lt_succ_self m, G', e', T', w'⟩, ?_⟩
      obtain ⟨⟨o3, en3⟩, p3, e3⟩ := Option.bind_eq_some_iff.mp (show ((b en2).bind fun y => match y.1 with
        | .nx => whileL t b m y.2
        | .ct => whileL t b m y.2
        | .bk => some (.nx, y.2)
        | .rt d c => some (.rt d c, y.2)) = some (o, en') from e2)
      refine ⟨G2, en2, o3, en3, T2.sr, p3, ?_⟩
      cases o3 with
      | nx => exact fun G' H' σ' T3 => ⟨G', en3, T12.trans T3, e3⟩
      | ct => exact fun G' H' σ' T3 => ⟨G', en3, T12.trans T3, e3⟩
      | bk =>
        cases e3
        exact fun G' H' σ' T3 => k G' H' σ' (T12.trans T3)
      | rt d b =>
        cases e3
        exact fun v G' H' σ' T3 r => k v G' H' σ' (T12.trans T3) (resS T12 r)

/-! ### for -/
/-- an iterator that gives these -/
def JOk (R : Given) (K : PySem.W.Frag) (J : It) (G0 : Hp) (ds : List D) : Prop := ∀ i G H, Same G0 G → Same G H → (ds.length ≤ i → J.stop i H) ∧ ∀ d, ds[i]? = some d → J.go i H ∧ ∀ x H', J.yld i H x H' → ∃ G', New G H G' H' ∧ R K G' x d
def FI (R : Given) (K : PySem.W.Frag) (f : Lv) : TI := fun σ H Q => ∃ G en ds en', SR K G H en σ ∧ f en = some (ds, en') ∧ ∀ J G' H', Step K en en' σ G H G' H' → JOk R K J G' ds → Q J H'
theorem pi_imp {tg iter : Expr} {t t' : TI} (h : PI X tg iter t) (k : ∀ σ H R, t' σ H R → t σ H R) : PI X tg iter t' := ⟨fun pins s σ H R I q => h.run pins s σ H R I (k _ _ _ q)⟩
def forL (s : Gv) (b : Sv) : List D → Sv
  | [] => fun en => some (.nx, en)
  | d :: ds => fun en => (s d en).bind fun e1 => (b e1).bind fun y => match y.1 with
    | .nx => forL s b ds y.2
    | .ct => forL s b ds y.2
    | .bk => some (.nx, y.2)
    | .rt d c => some (.rt d c, y.2)
def sFor (it : Lv) (s : Gv) (b : Sv) : Sv := fun en => (it en).bind fun x => forL s b x.1 x.2
theorem fs_for {R : Given} {tg iter : Expr} {body : List Stmt} {it : Lv} {ts : List Nat} {s : Gv} {b : Sv} (hp : PassesOwn (model X.prog X.w) X.A X.env X.xe) (hc : X.calm = true) (hi : PI X tg iter (FI R X.K it)) (hg : PG X tg (FG R X.K ts s)) (hb : PSs X body (FS X.K b)) (hs : ∀ x, foldedSetIterable iter X.env x = pure x := by intro _; rfl) :
    PS X (.For tg iter body [] pos) (FS X.K (sFor it s b)) := ps_imp (ps_for hp hc hi hg hb hs) fun D σ H ⟨G, en, o, en', S, e1, k⟩ => by
  obtain ⟨⟨ds, en1⟩, p1, e2⟩ := Option.bind_eq_some_iff.mp e1
  refine ⟨G, en, ds, en1, S, p1, fun J G1 H1 T1 hJ => ?_⟩
  refine ⟨fun i m σ2 H2 => ∃ G2 en2, StepS X.K en σ G H en2 σ2 G2 H2 ∧ Same G1 G2 ∧ m = ds.length - i ∧ forL s b (ds.drop i) en2 = some (o, en'), ⟨_, G1, en1, T1.s, Same.refl _, rfl, e2⟩, ?_⟩
  rintro i m σ2 H2 ⟨G2, en2, T2, g2, rfl, w⟩
  obtain ⟨j1, j2⟩ := hJ i G2 H2 g2 T2.sr.sub
  by_cases hi : i < ds.length
  · rw [List.drop_eq_getElem_cons hi] at w
    obtain ⟨en3, p3, e3⟩ := Option.bind_eq_some_iff.mp w
    obtain ⟨⟨o4, en4⟩, p4, e4⟩ := Option.bind_eq_some_iff.mp e3
    obtain ⟨j3, j4⟩ := j2 ds[i] (List.getElem?_eq_getElem hi)
    refine .inr ⟨j3, fun σ' H' => ∃ G' e', StepS X.K en σ G H e' σ' G' H' ∧ Same G1 G' ∧ forL s b (ds.drop (i + 1)) e' = some (o, en'), fun σ' H' ⟨G', e', T', g', w'⟩ => ⟨ds.length - (i + 1), by omega, G', e', T', g', rfl, w'⟩, fun x H3 hy => ?_⟩
    obtain ⟨G3, N3, r3⟩ := j4 x H3 hy
    have T3 := T2.trans (N3.step T2.sr).s
    refine ⟨G3, en2, _, en3, T3.sr, r3, p3, fun σ4 G4 H4 T4 _ => ?_⟩
    have T34 := T3.trans T4.s
    have g4 : Same G1 G4 := (g2.trans N3.ext.g).trans T4.ext.g
    refine ⟨G4, en3, o4, en4, T4.sr, p4, ?_⟩
    cases o4 with
    | nx => exact fun G' H' σ' T5 => ⟨G', en4, T34.trans T5, g4.trans T5.ext.g, e4⟩
    | ct => exact fun G' H' σ' T5 => ⟨G', en4, T34.trans T5, g4.trans T5.ext.g, e4⟩
    | bk =>
      cases e4
      exact fun G' H' σ' T5 => k G' H' σ' (T34.trans T5)
    | rt d b =>
      cases e4
      exact fun v G' H' σ' T5 r => k v G' H' σ' (T34.trans T5) (resS T34 r)
  · rw [List.drop_eq_nil_of_le (by omega)] at w
    cases w
    exact .inl ⟨j1 (by omega), k G2 H2 σ2 T2⟩
end

/-! ### the bodies of defs -/
section
variable {P : Program} {w : World} {K : PySem.W.Frag} {mg : Str → Option Value} {base : Heap} {x qual : Str} {params : Arguments} {body : List Stmt} {scope : Scope} {f : Addr} {fd : FuncData} {N ps : List Str} {k : Nat} {g : Sv}
theorem reps_start {G H : Hp} (s : Same G H) {vs : List V} {ds : List D} (r : Reps K G vs ds) : SR K G H (ini N.length ds) (L2.start N vs) := by
  have hl := r.length
  have at_ : ∀ (i : Nat) (d : D) (f : Fl), (ini N.length ds)[i]? = some (some (d, f)) → f = .sh ∧ ds[i]? = some d := fun i d f q => by
    unfold ini at q
    by_cases hi : i < ds.length
    · rw [List.getElem?_append_left (by simpa using hi), List.getElem?_map, List.getElem?_eq_getElem hi] at q
      cases q
      exact ⟨rfl, List.getElem?_eq_getElem hi⟩
    · rw [List.getElem?_append_right (by simpa using hi), List.getElem?_replicate] at q
      split at q <;> cases q
  refine ⟨s, ?_, fun i d q => ?_, fun i d f q n => absurd (at_ i d f q).1 n, fun i j d e f g a q1 n1 => absurd (at_ i d f q1).1 n1⟩
  · unfold ini L2.start
    rw [List.length_append, List.length_append, List.length_map, List.length_map, List.length_replicate, List.length_replicate, hl]
  · obtain ⟨v, h1, h2⟩ := r.get' (at_ i d _ q).2
    refine ⟨v, ?_, h2⟩
    unfold L2.start
    have hi := (List.getElem?_eq_some_iff.mp h1).1
    rw [List.getElem?_append_left (by simpa using hi), List.getElem?_map, h1]
    rfl
theorem ok_def0 (F : FunD K x qual params body scope [] [] f fd) (S : FnScope N ps scope) (hb : ∀ (cdv : Value) (A : Around) (outer : List Env) (s : Shared) (H : Hp) (E : XK), Room k (A.deeper (PyProof.Rows.envOfC qual scope s.heap.objs.size f cdv)) → PSs (cxOf CX0 P w K mg base N qual scope f cdv A outer s H E).nox body (FS K g)) :
    FnOk P w K mg base CX0 (k + 1) f fd ps (sp0 K ps.length (mk0 N.length g)) := by
  refine F.ok S (fun vs H Q E ⟨G, ds, d, b, _, r, hl, _⟩ => r.length.trans hl) fun cdv A outer s H vs Q E hr ⟨G, ds, d, b, sm, r, hl, e, q⟩ => ⟨FS K g, PSs.nox (hb cdv A outer s H E hr), ?_⟩
  obtain ⟨⟨o, en'⟩, p1, e1⟩ := Option.bind_eq_some_iff.mp e
  have S0 := reps_start (N := N) sm r
  have no : ∀ x, ¬ OwnA (ini N.length ds) (L2.start N vs) x := fun x ⟨i, d, f, q1, n, _⟩ => by
    by_cases hi : f = .sh
    · exact n hi
    · obtain ⟨a, o, _⟩ := S0.own i d f q1 n
      unfold ini at q1
      by_cases hj : i < ds.length
      · rw [List.getElem?_append_left (by simpa using hj), List.getElem?_map, List.getElem?_eq_getElem hj] at q1
        cases q1
        exact n rfl
      · rw [List.getElem?_append_right (by simpa using hj), List.getElem?_replicate] at q1
        split at q1 <;> cases q1
  have nw : ∀ {G' H' : Hp} {σ' : St}, StepS K (ini N.length ds) (L2.start N vs) G H en' σ' G' H' → New G H G' H' := fun {G' H' σ'} T => ⟨T.ext.weak fun x _ z _ => no x z, T.sr.sub⟩
  refine ⟨G, _, o, en', S0, p1, ?_⟩
  cases o with
  | nx =>
    cases e1
    exact fun G' H' σ' T => q _ G' H' (nw T) Rep.non
  | bk => cases e1
  | ct => cases e1
  | rt d2 b2 =>
    cases e1
    intro v G' H' σ' T r2
    refine q v G' H' (nw T) ?_
    cases b with
    | false => exact r2
    | true =>
      obtain ⟨a, u, e5, w1, w2, w3, w4, w5⟩ := r2
      exact ⟨a, u, e5, .inl (w1.resolve_right (no a)), fun z => z, w3, w4, w5⟩
theorem ok_defW (F : FunD K x qual params body scope [] [] f fd) (S : FnScope N ps scope) {np : Nat} (hnp : ps.length = np + 1) (hN : 0 < N.length) (hb : ∀ (cdv : Value) (A : Around) (outer : List Env) (s : Shared) (H : Hp) (E : XK), Room k (A.deeper (PyProof.Rows.envOfC qual scope s.heap.objs.size f cdv)) → PSs (cxOf CX0 P w K mg base N qual scope f cdv A outer s H E).nox body (FS K g)) :
    FnOk P w K mg base CX0 (k + 1) f fd ps (spW K np (mkW N.length g)) := by
  refine F.ok S (fun vs H Q E ⟨G, a, o, dw, ws, ds, d, b, dw', e, _, _, _, _, r, hl, _⟩ => by rw [e, List.length_cons, r.length, hl, hnp]) fun cdv A outer s H vs Q E hr ⟨G, a, o, dw, ws, ds, d, b, dw', ev, sm, ga, ha, ro, r, hl, e, q⟩ => ⟨FS K g, PSs.nox (hb cdv A outer s H E hr), ?_⟩
  subst ev
  obtain ⟨⟨o1, en'⟩, p1, e0⟩ := Option.bind_eq_some_iff.mp e
  obtain ⟨dw2, p2, e1⟩ := Option.bind_eq_some_iff.mp e0
  have R := reps_start (N := N.drop 1) sm r
  have el : (N.drop 1).length = N.length - 1 := by rw [List.length_drop]
  rw [el] at R
  have es : L2.start N (.ref a :: ws) = some (.ref a) :: L2.start (N.drop 1) ws := by
    unfold L2.start
    rw [el, List.map_cons, List.cons_append, List.length_cons, Nat.sub_sub, Nat.add_comm 1]
  rw [es]
  have S0 : SR K G H (some (dw, Fl.lent) :: ini (N.length - 1) ds) (some (.ref a) :: L2.start (N.drop 1) ws) := by
    refine ⟨sm, congrArg Nat.succ R.len, fun i d q => ?_, fun i d f q n => ?_, fun i j d e f g b q1 n1 q2 n2 s1 s2 => ?_⟩
    · cases i with
      | zero => cases q
      | succ i => exact R.shd i d q
    · cases i with
      | zero =>
        cases q
        exact ⟨a, o, rfl, ga, ha, ro⟩
      | succ i => exact R.own i d f q n
    · have no : ∀ (i : Nat) (d : D) (f : Fl), (some (dw, Fl.lent) :: ini (N.length - 1) ds)[i]? = some (some (d, f)) → f ≠ .sh → i = 0 := fun i d f q n => by
        cases i with
        | zero => rfl
        | succ i =>
          obtain ⟨_, _, _⟩ := R.own i d f q n
          have q' : (ini (N.length - 1) ds)[i]? = some (some (d, f)) := q
          unfold ini at q'
          by_cases hj : i < ds.length
          · rw [List.getElem?_append_left (by simpa using hj), List.getElem?_map, List.getElem?_eq_getElem hj] at q'
            cases q'
            exact absurd rfl n
          · rw [List.getElem?_append_right (by simpa using hj), List.getElem?_replicate] at q'
            split at q' <;> cases q'
      rw [no i d f q1 n1, no j e g q2 n2]
  have only : ∀ x, OwnA (some (dw, Fl.lent) :: ini (N.length - 1) ds) (some (.ref a) :: L2.start (N.drop 1) ws) x → x = a := fun x ⟨i, d, f, q1, n, z⟩ => by
    have e0 := S0.sep i 0 d dw f .lent x q1 n rfl (by decide) z
    cases i with
    | zero =>
      cases z
      rfl
    | succ i =>
      have q' : (ini (N.length - 1) ds)[i]? = some (some (d, f)) := q1
      unfold ini at q'
      by_cases hj : i < ds.length
      · rw [List.getElem?_append_left (by simpa using hj), List.getElem?_map, List.getElem?_eq_getElem hj] at q'
        cases q'
        exact absurd rfl n
      · rw [List.getElem?_append_right (by simpa using hj), List.getElem?_replicate] at q'
        split at q' <;> cases q'
  have me : OwnA (some (dw, Fl.lent) :: ini (N.length - 1) ds) (some (.ref a) :: L2.start (N.drop 1) ws) a := ⟨0, dw, .lent, rfl, by decide, rfl⟩
  have fin : ∀ {G' H' : Hp} {σ' : St} {v : V} {d : D} {b : Bool}, StepS K (some (dw, Fl.lent) :: ini (N.length - 1) ds) (some (.ref a) :: L2.start (N.drop 1) ws) G H en' σ' G' H' → Res K (OwnA (some (dw, Fl.lent) :: ini (N.length - 1) ds) (some (.ref a) :: L2.start (N.drop 1) ws)) H (OwnA en' σ') G' H' v d b →
      (∀ o', Ext (fun x => x = a) G H G' H' → Same G' H' → G' a = none → H' a = some o' → RepO K G' o' dw2 → Res K (fun x => x = a) H (fun x => x = a) G' H' v d b → Q v H') → Q v H' := by
    intro G' H' σ' v d b T r2 q2
    obtain ⟨_, st⟩ := T.lent 0 dw rfl
    have en0 := lentAt_of p2
    obtain ⟨a', o', s1, s2, s3, s4⟩ := T.sr.own 0 dw2 .lent en0 (by decide)
    rw [st] at s1
    cases s1
    have me' : OwnA en' σ' a := ⟨0, dw2, .lent, en0, by decide, st⟩
    refine q2 o' (T.ext.weak fun x _ z _ => only x z) T.sr.sub s2 s3 s4 ?_
    cases b with
    | false => exact r2
    | true =>
      obtain ⟨c, u, e5, w1, w2, w3, w4, w5⟩ := r2
      refine ⟨c, u, e5, ?_, fun z => w2 (by rw [z]; exact me'), w3, w4, w5⟩
      rcases w1 with w1 | w1
      · exact .inl w1
      · exact .inr (only c w1)
  refine ⟨G, _, o1, en', S0, p1, ?_⟩
  cases o1 with
  | nx =>
    cases e1
    exact fun G' H' σ' T => fin (b := false) T Rep.non fun o' E s g h ro' R' => q _ G' H' o' E s g h ro' R'
  | bk => cases e1
  | ct => cases e1
  | rt d2 b2 =>
    cases e1
    exact fun v G' H' σ' T r2 => fin T r2 fun o' E s g h ro' R' => q v G' H' o' E s g h ro' R'
end
end Fx
/-! Fx5: what is walked, comprehensions. -/
namespace Fx
open PySem PySem.Spec L2
/-! ### the block's own names are forgotten, and come back -/
def wipeE (en : En) : List Nat → En
  | [] => en
  | v :: vs => (wipeE en vs).set v none
def backE (e0 e1 : En) : List Nat → En
  | [] => e1
  | v :: vs => match e0[v]? with
    | some x => (backE e0 e1 vs).set v x
    | none => backE e0 e1 vs
section
variable {K : PySem.W.Frag} {G H G1 H1 G2 H2 : Hp} {en en1 en2 : En} {σ σ1 : St}
theorem wipeE_len (en : En) : ∀ vs : List Nat, (wipeE en vs).length = en.length
  | [] => rfl
  | v :: vs => by unfold wipeE; rw [List.length_set, wipeE_len en vs]
theorem wipeE_at {i : Nat} {x : D × Fl} : ∀ {vs : List Nat}, (wipeE en vs)[i]? = some (some x) → en[i]? = some (some x) ∧ i ∉ vs
  | [], h => ⟨h, by simp⟩
  | v :: vs, h => by
    unfold wipeE at h
    rcases set_at h with ⟨_, w, _⟩ | ⟨hi, w⟩
    · cases w
    · obtain ⟨h1, h2⟩ := wipeE_at w
      exact ⟨h1, by simp only [List.mem_cons, not_or]; exact ⟨hi, h2⟩⟩
theorem wipeE_off {i : Nat} : ∀ {vs : List Nat}, i ∉ vs → (wipeE en vs)[i]? = en[i]?
  | [], _ => rfl
  | v :: vs, h => by
    simp only [List.mem_cons, not_or] at h
    unfold wipeE
    rw [List.getElem?_set_ne (Ne.symm h.1), wipeE_off h.2]
theorem wipe_off {i : Nat} : ∀ {vs : List Nat}, i ∉ vs → (wipe σ vs)[i]? = σ[i]?
  | [], _ => rfl
  | v :: vs, h => by
    simp only [List.mem_cons, not_or] at h
    unfold wipe
    rw [List.getElem?_set_ne (Ne.symm h.1), wipe_off h.2]
theorem wipe_on {i : Nat} : ∀ {vs : List Nat}, i ∈ vs → i < σ.length → (wipe σ vs)[i]? = some none
  | v :: vs, h, hl => by
    unfold wipe
    by_cases hi : i = v
    · subst hi
      exact List.getElem?_set_self (by rw [wipe_length]; exact hl)
    · rw [List.getElem?_set_ne (Ne.symm hi)]
      exact wipe_on ((List.mem_cons.mp h).resolve_left hi) hl
theorem SR.wipe {vs : List Nat} (S : SR K G H en σ) : SR K G H (wipeE en vs) (wipe σ vs) := by
  refine ⟨S.sub, by rw [wipeE_len, wipe_length]; exact S.len, fun i d q => ?_, fun i d f q n => ?_, fun i j d e f g a q1 n1 q2 n2 s1 s2 => ?_⟩
  · obtain ⟨q1, q2⟩ := wipeE_at q
    obtain ⟨v, s1, s2⟩ := S.shd i d q1
    exact ⟨v, by rw [wipe_off q2]; exact s1, s2⟩
  · obtain ⟨q1, q2⟩ := wipeE_at q
    obtain ⟨a, o, s1, s2⟩ := S.own i d f q1 n
    exact ⟨a, o, by rw [wipe_off q2]; exact s1, s2⟩
  · obtain ⟨q1, h1⟩ := wipeE_at q1
    obtain ⟨q2, h2⟩ := wipeE_at q2
    rw [wipe_off h1] at s1
    rw [wipe_off h2] at s2
    exact S.sep i j d e f g a q1 n1 q2 n2 s1 s2
theorem own_wipe {vs : List Nat} {b : Addr} (h : OwnA (wipeE en vs) (wipe σ vs) b) : OwnA en σ b := by
  obtain ⟨i, d, f, q, n, s⟩ := h
  obtain ⟨q1, q2⟩ := wipeE_at q
  rw [wipe_off q2] at s
  exact ⟨i, d, f, q1, n, s⟩
theorem backE_len {e0 e1 : En} (h : e0.length = e1.length) : ∀ vs : List Nat, (backE e0 e1 vs).length = e1.length
  | [] => rfl
  | v :: vs => by
    unfold backE
    split
    · rw [List.length_set, backE_len h vs]
    · exact backE_len h vs
theorem backE_at {e0 e1 : En} {i : Nat} {x : Option (D × Fl)} (h : e0.length = e1.length) : ∀ {vs : List Nat}, (backE e0 e1 vs)[i]? = some x → (i ∈ vs ∧ e0[i]? = some x) ∨ (i ∉ vs ∧ e1[i]? = some x)
  | [], q => .inr ⟨by simp, q⟩
  | v :: vs, q => by
    unfold backE at q
    split at q
    · rename_i y e
      rcases set_at q with ⟨rfl, w, _⟩ | ⟨hi, w⟩
      · exact .inl ⟨List.mem_cons_self .., by rw [e, w]⟩
      · rcases backE_at h w with ⟨a, b⟩ | ⟨a, b⟩
        · exact .inl ⟨List.mem_cons_of_mem _ a, b⟩
        · exact .inr ⟨by simp only [List.mem_cons, not_or]; exact ⟨hi, a⟩, b⟩
    · rename_i e
      have hv : e0.length ≤ v := List.getElem?_eq_none_iff.mp e
      have hi : i < (backE e0 e1 vs).length := (List.getElem?_eq_some_iff.mp q).1
      rw [backE_len h] at hi
      have ne : i ≠ v := by omega
      rcases backE_at h q with ⟨a, b⟩ | ⟨a, b⟩
      · exact .inl ⟨List.mem_cons_of_mem _ a, b⟩
      · exact .inr ⟨by simp only [List.mem_cons, not_or]; exact ⟨ne, a⟩, b⟩
theorem backE_on {e0 e1 : En} {i : Nat} (h : e0.length = e1.length) (vs : List Nat) (hi : i < e1.length) : (i ∈ vs → (backE e0 e1 vs)[i]? = e0[i]?) ∧ (i ∉ vs → (backE e0 e1 vs)[i]? = e1[i]?) := by
  have hb : i < (backE e0 e1 vs).length := by rw [backE_len h]; exact hi
  have q := List.getElem?_eq_getElem hb
  rcases backE_at h q with ⟨a, b⟩ | ⟨a, b⟩
  · exact ⟨fun _ => by rw [q, b], fun n => absurd a n⟩
  · exact ⟨fun n => absurd n a, fun _ => by rw [q, b]⟩
/-- behind the block the slots stand as ahead of it, but for what was written -/
theorem StepG.back {vs : List Nat} (S : SR K G H en σ) (T : StepG K (wipeE en vs) (wipe σ vs) G H en1 (wipe σ vs) G1 H1) : Step K en (backE en en1 vs) σ G H G1 H1 := by
  have hl : en.length = en1.length := by
    have := T.sr.len
    rw [wipe_length] at this
    rw [this]; exact S.len
  have off : ∀ {i : Nat} {w : Option V}, i ∉ vs → (wipe σ vs)[i]? = some w → σ[i]? = some w := fun {i w} n q => by rw [wipe_off n] at q; exact q
  have far : ∀ {i : Nat} {d : D} {f : Fl} {a : Addr}, i ∈ vs → en[i]? = some (some (d, f)) → f ≠ .sh → σ[i]? = some (some (.ref a)) → ¬ OwnA (wipeE en vs) (wipe σ vs) a := fun {i d f a} hi q n s ⟨j, d2, g, q2, n2, s2⟩ => by
    obtain ⟨q3, h3⟩ := wipeE_at q2
    rw [wipe_off h3] at s2
    exact h3 (S.sep i j d d2 f g a q n q3 n2 s s2 ▸ hi)
  refine ⟨T.ext.weak fun b o z _ => own_wipe z, ⟨T.sr.sub, by rw [backE_len hl, ← hl]; exact S.len, fun i d q => ?_, fun i d f q n => ?_, fun i j d e f g a q1 n1 q2 n2 s1 s2 => ?_⟩, fun b ⟨i, d, f, q, n, s⟩ => ?_, fun i d q => ?_⟩
  · rcases backE_at hl q with ⟨a, b⟩ | ⟨a, b⟩
    · obtain ⟨v, s1, s2⟩ := S.shd i d b
      exact ⟨v, s1, s2.mono T.ext.g⟩
    · obtain ⟨v, s1, s2⟩ := T.sr.shd i d b
      exact ⟨v, off a s1, s2⟩
  · rcases backE_at hl q with ⟨a, b⟩ | ⟨a, b⟩
    · obtain ⟨x, o, s1, s2, s3, s4⟩ := S.own i d f b n
      have nf := far a b n s1
      exact ⟨x, o, s1, T.ext.n x o s3 nf s2, T.ext.h x o s3 nf, s4.mono T.ext.g⟩
    · obtain ⟨x, o, s1, s2⟩ := T.sr.own i d f b n
      exact ⟨x, o, off a s1, s2⟩
  · have cross : ∀ (i j : Nat) (d e : D) (f g : Fl), i ∈ vs → en[i]? = some (some (d, f)) → f ≠ .sh → j ∉ vs → en1[j]? = some (some (e, g)) → g ≠ .sh → σ[i]? = some (some (.ref a)) → σ[j]? = some (some (.ref a)) → False := fun i j d e f g hi q n hj q' n' s s' =>
      far hi q n s (T.own a ⟨j, e, g, q', n', by rw [wipe_off hj]; exact s'⟩)
    rcases backE_at hl q1 with ⟨a1, b1⟩ | ⟨a1, b1⟩
    · rcases backE_at hl q2 with ⟨a2, b2⟩ | ⟨a2, b2⟩
      · exact S.sep i j d e f g a b1 n1 b2 n2 s1 s2
      · exact (cross i j d e f g a1 b1 n1 a2 b2 n2 s1 s2).elim
    · rcases backE_at hl q2 with ⟨a2, b2⟩ | ⟨a2, b2⟩
      · exact (cross j i e d g f a2 b2 n2 a1 b1 n1 s2 s1).elim
      · exact T.sr.sep i j d e f g a b1 n1 b2 n2 (by rw [wipe_off a1]; exact s1) (by rw [wipe_off a2]; exact s2)
  · rcases backE_at hl q with ⟨a, b⟩ | ⟨a, b⟩
    · exact ⟨i, d, f, b, n, s⟩
    · exact own_wipe (T.own _ ⟨i, d, f, b, n, by rw [wipe_off a]; exact s⟩)
  · have hi : i < en1.length := by rw [← hl]; exact (List.getElem?_eq_some_iff.mp q).1
    obtain ⟨k1, k2⟩ := backE_on hl vs hi
    by_cases hv : i ∈ vs
    · exact ⟨d, by rw [k1 hv]; exact q⟩
    · obtain ⟨⟨d', e'⟩, _⟩ := T.lent i d (by rw [wipeE_off hv]; exact q)
      exact ⟨d', by rw [k2 hv]; exact e'⟩
/-- an object of nobody is written -/
theorem SR.nobody {a : Addr} {o o' : HO} (S : SR K G H en σ) (h : H a = some o) (g : G a = none) (n : ¬ OwnA en σ a) : SR K G (upd H a o') en σ := by
  refine ⟨fun b u e => ?_, S.len, S.shd, fun i d f q n1 => ?_, S.sep⟩
  · have hb : b ≠ a := fun z => by rw [z, g] at e; cases e
    rw [upd_ne hb]
    exact S.sub b u e
  · obtain ⟨x, u, s1, s2, s3, s4⟩ := S.own i d f q n1
    have hb : x ≠ a := fun z => n ⟨i, d, f, q, n1, by rw [← z]; exact s1⟩
    exact ⟨x, u, s1, s2, by rw [upd_ne hb]; exact s3, s4⟩
theorem Ext.nobody {O : Addr → Prop} {a : Addr} {o' : HO} (E : Ext O G H G1 H1) (h : H a = none) : Ext O G H G1 (upd H1 a o') := by
  refine ⟨E.g, fun b u e n => ?_, E.n, fun b e => ?_⟩
  · rw [upd_ne (ne_of_none e h)]
    exact E.h b u e n
  · by_cases hb : b = a
    · rw [hb]; exact h
    · rw [upd_ne hb] at e
      exact E.t b e
end
/-! ### the tests of a clause -/
def tTrue : Tv := fun en => some (true, en)
section
variable {X : Cx} {e : Expr} {pos : Pos}
theorem ft_none : PTs X [] (FT X.K tTrue) := ⟨fun pins s σ H Q I ⟨G, en, b, en', S, e1, k⟩ => by
  cases e1
  exact pts_nil.run pins s σ H Q I (k G H (Step.refl S))⟩
theorem ft_one {c : Expr} {t : Tv} (h : PT X c (FT X.K t)) : PTs X [c] (FT X.K t) := pts_one h
/-! ### [elt for target in iter if test] -/
def lcL (vs : List Nat) (s : Gv) (t : Tv) (f : Vv) : List D → En → Option (List D × En)
  | [], en => some ([], en)
  | d :: ds, en => (s d (wipeE en vs)).bind fun e1 => (t e1).bind fun x => if x.1 = true then (f x.2).bind fun y => (lcL vs s t f ds (wipeE y.2 vs)).map fun r => (y.1 :: r.1, r.2) else lcL vs s t f ds (wipeE x.2 vs)
def fLc (vs : List Nat) (it : Lv) (s : Gv) (t : Tv) (f : Vv) : Ev := fun en => (it en).bind fun x => (lcL vs s t f x.1 (wipeE x.2 vs)).bind fun y => if y.1.length ≤ sizeLine then some (.list y.1, true, backE x.2 y.2 vs) else none
theorem wipe_wipe {K : PySem.W.Frag} {σ σ2 : St} {vs ts : List Nat} (hs : ∀ i ∈ ts, i ∈ vs) (hl : σ2.length = σ.length) (k : ∀ i, i ∉ ts → σ2[i]? = (wipe σ vs)[i]?) : wipe σ2 vs = wipe σ vs := by
  apply List.ext_getElem?
  intro i
  by_cases hi : i ∈ vs
  · by_cases hn : i < σ.length
    · rw [wipe_on hi hn, wipe_on hi (by rw [hl]; exact hn)]
    · rw [List.getElem?_eq_none (by rw [wipe_length]; omega), List.getElem?_eq_none (by rw [wipe_length]; omega)]
  · rw [wipe_off hi, k i fun z => hi (hs i z)]
theorem wipeE_wipeE {en : En} {vs : List Nat} : wipeE (wipeE en vs) vs = wipeE en vs := by
  have on : ∀ {e : En} {us : List Nat} {i : Nat}, i ∈ us → i < e.length → (wipeE e us)[i]? = some none := by
    intro e us
    induction us with
    | nil => intro i h; cases h
    | cons v us ih =>
      intro i h hl
      unfold wipeE
      by_cases hv : i = v
      · subst hv
        exact List.getElem?_set_self (by rw [wipeE_len]; exact hl)
      · rw [List.getElem?_set_ne (Ne.symm hv)]
        exact ih ((List.mem_cons.mp h).resolve_left hv) hl
  apply List.ext_getElem?
  intro i
  by_cases hi : i ∈ vs
  · by_cases hn : i < en.length
    · rw [on hi hn, on hi (by rw [wipeE_len]; exact hn)]
    · rw [List.getElem?_eq_none (by rw [wipeE_len, wipeE_len]; omega), List.getElem?_eq_none (by rw [wipeE_len]; omega)]
  · rw [wipeE_off hi]
theorem lc_of {R : Given} {K : PySem.W.Frag} {vs ts : List Nat} {it : Lv} {s : Gv} {t : Tv} {f : Vv} (hts : ∀ i ∈ ts, i ∈ vs) {σ : St} {H : Hp} {Q : VK} (h : FE K (fLc vs it s t f) σ H Q) : tLc (FI R K it) (FG R K ts s) (FT K t) (FV K f) vs σ H Q := by
  obtain ⟨G, en, z, zb, en', S, e1, k⟩ := h
  obtain ⟨⟨ds, en1⟩, p1, e2⟩ := Option.bind_eq_some_iff.mp e1
  obtain ⟨⟨rs, en2⟩, p2, e3⟩ := Option.bind_eq_some_iff.mp e2
  obtain ⟨hz, e4⟩ := ite_some e3
  cases e4
  refine ⟨G, en, ds, en1, S, p1, fun J G1 H1 T1 hJ D hD => ?_⟩
  have S1 := T1.sr
  have nobD : ∀ {e : En} {σ' : St}, (∀ b, OwnA e σ' b → OwnA (wipeE en1 vs) (wipe σ vs) b) → ¬ OwnA e σ' D := fun {e σ'} hh q => by
    obtain ⟨o, ho, _⟩ := S1.there (own_wipe (hh D q))
    rw [hD] at ho
    cases ho
  -- the loop: what is made so far, and what is left
  refine ⟨fun i m H' => ∃ G' e' accV acc rest, StepG K (wipeE en1 vs) (wipe σ vs) G1 H1 e' (wipe σ vs) G' H' ∧ wipeE e' vs = e' ∧ G' D = none ∧ H' D = some (.lst accV) ∧ Reps K G' accV acc ∧ m = ds.length - i ∧ lcL vs s t f (ds.drop i) e' = some (rest, en2) ∧ rs = acc ++ rest, ⟨ds.length, G1, _, [], [], rs, ?_, wipeE_wipeE, S1.sub.free hD, upd_same, .nil, rfl, p2, rfl⟩, ?_⟩
  · have N := New.own (o := .lst []) S1.sub hD
    exact step_g (N.step S1.wipe)
  rintro i m H2 ⟨G2, e2, accV, acc, rest, T2, w2, gD, hD2, ra, rfl, pl, er⟩
  have nD2 := nobD T2.own
  have gg : Same G1 G2 := T2.ext.g
  obtain ⟨j1, j2⟩ := hJ i G2 H2 gg T2.sr.sub
  by_cases hi : i < ds.length
  · rw [List.drop_eq_getElem_cons hi] at pl
    obtain ⟨e3, q3, pl⟩ := Option.bind_eq_some_iff.mp pl
    obtain ⟨⟨c, e4⟩, q4, pl⟩ := Option.bind_eq_some_iff.mp pl
    rw [w2] at q3
    obtain ⟨j3, j4⟩ := j2 ds[i] (List.getElem?_eq_getElem hi)
    refine .inr ⟨j3, fun H' => ∃ G' e' accV acc rest, StepG K (wipeE en1 vs) (wipe σ vs) G1 H1 e' (wipe σ vs) G' H' ∧ wipeE e' vs = e' ∧ G' D = none ∧ H' D = some (.lst accV) ∧ Reps K G' accV acc ∧ lcL vs s t f (ds.drop (i + 1)) e' = some (rest, en2) ∧ rs = acc ++ rest,
      fun H' ⟨G', e', aV, a, r, h1, h2, h3, h4, h5, h6, h7⟩ => ⟨ds.length - (i + 1), by omega, G', e', aV, a, r, h1, h2, h3, h4, h5, rfl, h6, h7⟩, fun x H3 hy => ?_⟩
    obtain ⟨G3, N3, r3⟩ := j4 x H3 hy
    have T3 := T2.trans (step_g (N3.step T2.sr))
    have gD3 : G3 D = none := N3.ext.n D _ hD2 (fun z => z) gD
    have hD3 : H3 D = some (.lst accV) := N3.ext.h D _ hD2 fun z => z
    refine ⟨G3, e2, _, e3, T3.sr, r3, q3, fun σ4 G4 H4 T4 k4 => ?_⟩
    have hl4 : σ4.length = σ.length := k4.1.trans (wipe_length σ vs)
    have ww : wipe σ4 vs = wipe σ vs := wipe_wipe (K := K) hts hl4 k4.2
    refine ⟨ww, ?_⟩
    have T34 := T3.trans T4
    have nD4 := nobD T34.own
    have nD3 := nobD T3.own
    have gD4 : G4 D = none := T4.ext.n D _ hD3 nD3 gD3
    have hD4 : H4 D = some (.lst accV) := T4.ext.h D _ hD3 nD3
    refine ⟨G4, e3, c, e4, T4.sr, q4, fun G5 H5 T5 => ?_⟩
    have T35 := T34.trans (step_g T5)
    have nD5 := nobD T35.own
    have gD5 : G5 D = none := T5.ext.n D _ hD4 nD4 gD4
    have hD5 : H5 D = some (.lst accV) := T5.ext.h D _ hD4 nD4
    -- a turn's end, the block's own names forgotten
    have fin : ∀ {e6 : En} {G6 H6 : Hp}, StepG K (wipeE en1 vs) (wipe σ vs) G1 H1 e6 σ4 G6 H6 → StepG K (wipeE en1 vs) (wipe σ vs) G1 H1 (wipeE e6 vs) (wipe σ vs) G6 H6 := fun {e6 G6 H6} T => by
      have W := T.sr.wipe (vs := vs)
      rw [ww] at W
      refine ⟨T.ext, W, fun b q => ?_, fun i d q => ?_⟩
      · rw [← ww] at q
        exact T.own b (own_wipe q)
      · obtain ⟨⟨d', e'⟩, s'⟩ := T.lent i d q
        exact ⟨⟨d', by rw [wipeE_off (wipeE_at q).2]; exact e'⟩, rfl⟩
    cases c with
    | false =>
      refine iteF ⟨G5, wipeE e4 vs, accV, acc, rest, fin T35, wipeE_wipeE, gD5, hD5, ra.mono ((N3.ext.g.trans T4.ext.g).trans T5.ext.g), ?_, er⟩
      exact pl
    | true =>
      obtain ⟨⟨y, e6⟩, q6, pl⟩ := Option.bind_eq_some_iff.mp (show ((f e4).bind fun y => (lcL vs s t f (ds.drop (i + 1)) (wipeE y.2 vs)).map fun r => (y.1 :: r.1, r.2)) = some (rest, en2) from pl)
      obtain ⟨⟨rest', en3⟩, q7, pl⟩ := Option.map_eq_some_iff.mp pl
      cases pl
      refine iteT ⟨G5, e4, y, e6, T5.sr, q6, fun yv G6 H6 T6 ry => ?_⟩
      have T36 := T35.trans (step_g T6)
      have gD6 : G6 D = none := T6.ext.n D _ hD5 nD5 gD5
      have hD6 : H6 D = some (.lst accV) := T6.ext.h D _ hD5 nD5
      have ra6 := ra.mono (((N3.ext.g.trans T4.ext.g).trans T5.ext.g).trans T6.ext.g)
      have T7 := fin T36
      refine ⟨accV, hD6, ?_, G6, wipeE e6 vs, accV ++ [yv], acc ++ [y], rest', ⟨T7.ext.nobody hD, T7.sr.nobody hD6 gD6 (nobD T7.own), T7.own, T7.lent⟩, wipeE_wipeE, gD6, upd_same, ra6.append (.cons ry .nil), q7, by rw [er, List.append_assoc]; rfl⟩
      have h1 := ra.length
      rw [er, List.length_append, List.length_cons] at hz
      omega
  · rw [List.drop_eq_nil_of_le (by omega)] at pl
    cases pl
    refine .inl ⟨j1 (by omega), ?_⟩
    have B := T2.back S1
    have er2 : rs = acc := by rw [er, List.append_nil]
    refine k _ G2 H2 (T1.trans B) (Res.new (.inl (T1.ext.t D hD)) (fun q => ?_) hD2 gD (.lst (er2 ▸ ra)))
    obtain ⟨o, ho, _⟩ := S1.there (B.own D q)
    rw [hD] at ho
    cases ho
theorem fe_lc {R : Given} {elt tg iter : Expr} {ifs : List Expr} {scope : Scope} {own : List (Str × Nat)} {ts : List Nat} {it : Lv} {s : Gv} {t : Tv} {f : Vv} (hc : X.calm = true) (hN : X.N.Nodup) (hi : PI X tg iter (FI R X.K it)) (ok : BlkOk X.N X.env.scope scope own) (hts : ∀ i ∈ ts, i ∈ own.map (·.2))
    (hg : ∀ (s' : Shared) (H : Hp) (C : Addr) (cl : List (Str × Addr)) (fp : List Addr), PG (X.blk s' H scope (compEnvC scope cl C X.env) fp) tg (FG R X.K ts s))
    (ht : ∀ (s' : Shared) (H : Hp) (C : Addr) (cl : List (Str × Addr)) (fp : List Addr), PTs (X.blk s' H scope (compEnvC scope cl C X.env) fp) ifs (FT X.K t))
    (he : ∀ (s' : Shared) (H : Hp) (C : Addr) (cl : List (Str × Addr)) (fp : List Addr), PE (X.blk s' H scope (compEnvC scope cl C X.env) fp) elt (FV X.K f)) (hs : ∀ x, foldedSetIterable iter X.env x = pure x := by intro _; rfl) :
    PE X (.ListComp elt [⟨tg, iter, ifs, 0⟩] scope pos) (FE X.K (fLc (own.map (·.2)) it s t f)) := pe_imp (pe_lc hc hN hi ok hg ht he hs) fun _ _ _ h => lc_of hts h
theorem fs_setLc {R : Given} {i : Nat} {y : Str} {py spos : Pos} {elt tg iter : Expr} {ifs : List Expr} {scope : Scope} {own : List (Str × Nat)} {ts : List Nat} {it : Lv} {s : Gv} {t : Tv} {f : Vv} (hc : X.calm = true) (hN : X.N.Nodup) (hi : PI X tg iter (FI R X.K it)) (ok : BlkOk X.N X.env.scope scope own) (hts : ∀ i ∈ ts, i ∈ own.map (·.2))
    (hg : ∀ (s' : Shared) (H : Hp) (C : Addr) (cl : List (Str × Addr)) (fp : List Addr), PG (X.blk s' H scope (compEnvC scope cl C X.env) fp) tg (FG R X.K ts s))
    (ht : ∀ (s' : Shared) (H : Hp) (C : Addr) (cl : List (Str × Addr)) (fp : List Addr), PTs (X.blk s' H scope (compEnvC scope cl C X.env) fp) ifs (FT X.K t))
    (he : ∀ (s' : Shared) (H : Hp) (C : Addr) (cl : List (Str × Addr)) (fp : List Addr), PE (X.blk s' H scope (compEnvC scope cl C X.env) fp) elt (FV X.K f))
    (hy : X.N[i]? = some y := by rfl) (hyl : X.env.scope.names.lookup y = some .local := by rfl) (hsw : swapsWith (.ListComp elt [⟨tg, iter, ifs, 0⟩] scope pos) (some (.Name y py)) spos.line X.env = pure true := by exact sw_true rfl rfl rfl (by decide +kernel)) (hs : ∀ x, foldedSetIterable iter X.env x = pure x := by intro _; rfl) :
    PS X (.Assign [.Name y py] (.ListComp elt [⟨tg, iter, ifs, 0⟩] scope pos) spos) (FS X.K (sSet i (fLc (own.map (·.2)) it s t f))) := ps_imp (ps_setLc hc hN hy hyl hsw hi ok hg ht he hs) fun D σ H ⟨G, en, o, en', S, e1, k⟩ => by
  obtain ⟨⟨d, b, en1⟩, p1, e2⟩ := Option.bind_eq_some_iff.mp e1
  obtain ⟨hl, e3⟩ := ite_some e2
  cases e3
  exact lc_of hts ⟨G, en, d, b, en1, S, p1, fun v G1 H1 T r => k G1 H1 _ (T.s.store hl r)⟩
end
end Fx
/-! Fx6: walked values and ranges; operators on data. -/
namespace Fx
open PySem PySem.Spec L2
/-! ### what a for walks -/
def charsD (z : Str) : List D := z.cps.toList.map fun c => .str ⟨#[c]⟩
def seqD : D → Option (List D)
  | .list ds => some ds
  | .tuple ds => some ds
  | .str z => some (charsD z)
  | _ => none
def itV (f : Vv) : Lv := fun en => (f en).bind fun x => (seqD x.1).map fun ds => (ds, x.2)
section
variable {X : Cx} {tg e : Expr} {pos p : Pos} {K : PySem.W.Frag}
theorem jok_list {a : Addr} {xs : List V} {ds : List D} {G0 : Hp} (h : SqL K G0 a xs) (r : Reps K G0 xs ds) : JOk Rep K (Itl K a) G0 ds := fun i G H s1 s2 => by
  have hq := (s1.trans s2).seq h
  have hl := r.length
  refine ⟨fun hi => ⟨xs, hq, by omega⟩, fun d hd => ?_⟩
  obtain ⟨v, h1, h2⟩ := r.get' hd
  refine ⟨⟨xs, v, hq, h1⟩, fun x H' ⟨e, k⟩ => ?_⟩
  subst e
  have := k xs hq
  rw [h1] at this
  cases this
  exact ⟨G, New.refl s2, h2.mono s1⟩
theorem jok_tup {a : Addr} {xs : List V} {ds : List D} {G0 : Hp} (h : TupG K G0 a xs) (r : Reps K G0 xs ds) : JOk Rep K (Itt K a) G0 ds := fun i G H s1 s2 => by
  have hq := seqT (s1.trans s2) h.sq
  have hl := r.length
  refine ⟨fun hi => ⟨xs, hq, by omega⟩, fun d hd => ?_⟩
  obtain ⟨v, h1, h2⟩ := r.get' hd
  refine ⟨⟨xs, v, hq, h1⟩, fun x H' ⟨e, k⟩ => ?_⟩
  subst e
  have := k xs hq
  rw [h1] at this
  cases this
  exact ⟨G, New.refl s2, h2.mono s1⟩
theorem jok_str {z : Str} {G0 : Hp} : JOk Rep K (Its z) G0 (charsD z) := fun i G H s1 s2 => by
  refine ⟨fun hi => ?_, fun d hd => ?_⟩
  · have : (charsD z).length = z.cps.size := by simp [charsD]
    show z.cps.size ≤ i
    omega
  · unfold charsD at hd
    rw [List.getElem?_map] at hd
    obtain ⟨c, h1, h2⟩ := Option.map_eq_some_iff.mp hd
    have h3 : z.cps[i]? = some c := by simpa using h1
    refine ⟨(Array.getElem?_eq_some_iff.mp h3).1, fun x H' ⟨e, c', k1, k2⟩ => ?_⟩
    subst e k2
    rw [h3] at k1
    cases k1
    exact ⟨G, New.refl s2, by rw [← h2]; exact .str _⟩
theorem fi_val {f : Vv} (he : PE X e (FV X.K f)) : PI X tg e (FI Rep X.K (itV f)) := by
  refine ⟨fun pins s σ H R I ⟨G, en, ds, en', S, e1, k⟩ => ?_⟩
  obtain ⟨⟨d, en1⟩, p1, e2⟩ := Option.bind_eq_some_iff.mp e1
  obtain ⟨ds', q1, q2⟩ := Option.map_eq_some_iff.mp e2
  cases q2
  refine thn (he.run pins s σ H (fun v H1 => ∃ G1, Step X.K en en1 σ G H G1 H1 ∧ Rep X.K G1 v d) I ⟨G, en, d, en1, S, p1, fun v G1 H1 T r => ⟨G1, T, r⟩⟩) fun u s1 ⟨v, H1, I1, rv, G1, T, r⟩ => ?_
  cases r with
  | tup h rr =>
    cases q1
    cases rv
    obtain ⟨its, ri, ht, hz⟩ := I1.tuple (seqT T.sr.sub h.sq)
    refine wpAny_pyIter_tuple (items := its.toArray) ht ?_
    exact pi_one (tk := s1.toks) I1 _ (turn_tuple _ _) ⟨_, Heap.get?_push_size _ rfl, rfl, rfl⟩ (k _ _ _ T (jok_tup h rr))
  | lst h rr =>
    cases q1
    cases rv
    obtain ⟨its, ri, ht, hz⟩ := I1.list (T.sr.sub.seq h)
    refine wpAny_pyIter_list ht.isList ?_
    exact pi_one (tk := s1.toks) I1 _ (turn_list _ _) ⟨_, Heap.get?_push_size _ rfl, rfl, rfl⟩ (k _ _ _ T (jok_list h rr))
  | str z =>
    cases q1
    obtain ⟨t, rfl⟩ := rv
    cases ha : z.cps.all (· < 128) with
    | true => exact wpAny_pyIter_ascii ha (pi_one (tk := s1.toks) I1 _ (turn_str _ z t "str_ascii_iterator" (.inl rfl)) ⟨_, Heap.get?_push_size _ rfl, rfl, rfl⟩ (k _ _ _ T jok_str))
    | false => exact wpAny_pyIter_wide ha (pi_one (tk := s1.toks) I1 _ (turn_str _ z t "str_iterator" (.inr rfl)) ⟨_, Heap.get?_push_size _ rfl, rfl, rfl⟩ (k _ _ _ T jok_str))
  | dct h rr => cases q1
  | non => cases q1
  | bl b => cases q1
  | int i => cases q1
/-- lo, lo + 1, .. -/
def rngD (lo c : Int) (n : Nat) : List D := (List.range n).map fun (i : Nat) => .int (lo + (i : Int) * c)
theorem jok_rng {lo c : Int} {n : Nat} {G0 : Hp} : JOk Rep K (Itc lo c n) G0 (rngD lo c n) := fun i G H s1 s2 => by
  have hl : (rngD lo c n).length = n := by simp [rngD]
  refine ⟨fun hi => by rw [hl] at hi; exact hi, fun d hd => ?_⟩
  unfold rngD at hd
  rw [List.getElem?_map] at hd
  obtain ⟨j, h1, h2⟩ := Option.map_eq_some_iff.mp hd
  obtain ⟨h3, h4⟩ := List.getElem?_eq_some_iff.mp h1
  rw [List.length_range] at h3
  rw [List.getElem_range] at h4
  subst h4 h2
  refine ⟨h3, fun x H' ⟨e, k⟩ => ?_⟩
  subst e k
  exact ⟨G, New.refl s2, .int _⟩
theorem jok_rng1 {lo : Int} {n : Nat} {G0 : Hp} : JOk Rep K (Itr lo n) G0 (rngD lo 1 n) := fun i G H s1 s2 => by
  obtain ⟨h1, h2⟩ := jok_rng (K := K) (lo := lo) (c := 1) (n := n) (G0 := G0) i G H s1 s2
  refine ⟨h1, fun d hd => ?_⟩
  obtain ⟨h3, h4⟩ := h2 d hd
  refine ⟨h3, fun x H' ⟨e, k⟩ => h4 x H' ⟨e, ?_⟩⟩
  rw [k, Int.mul_one]
def inLine (i : Int) : Bool := decide (-(2 ^ 62) ≤ i) && decide (i < 2 ^ 62)
theorem inLine_of {i : Int} (h : inLine i = true) : -(2 ^ 62) ≤ i ∧ i < 2 ^ 62 := by
  simpa [inLine] using h
def range1D : List D → Option (List D)
  | [.int j] => if inLine j = true then some (rngD 0 1 j.toNat) else none
  | _ => none
def range2D : List D → Option (List D)
  | [.int i, .int j] => if (inLine i && inLine j) = true then some (rngD i 1 (j - i).toNat) else none
  | _ => none
/-- downwards by ones -/
def range3D : List D → Option (List D)
  | [.int i, .int j, .int c] => if (inLine i && inLine j && decide (c = -1)) = true then some (rngD i (-1) (i - j).toNat) else none
  | _ => none
def itR (a : Av) (g : List D → Option (List D)) : Lv := fun en => (a en).bind fun x => (lates x.2 x.1).bind fun ds => (g ds).map fun r => (r, x.2)
theorem itR_of {a : Av} {g : List D → Option (List D)} {σ : St} {H : Hp} {R : It → Hp → Prop} (h : FI Rep K (itR a g) σ H R) : FA K a σ H fun vs H1 => ∃ G ds rs, Uses K G H1 vs ds ∧ g ds = some rs ∧ ∀ J, (∀ G0, JOk Rep K J G0 rs) → R J H1 := by
  obtain ⟨G, en, rs, en', S, e1, k⟩ := h
  obtain ⟨⟨hs, en1⟩, p1, e2⟩ := Option.bind_eq_some_iff.mp e1
  obtain ⟨ds, p2, e3⟩ := Option.bind_eq_some_iff.mp e2
  obtain ⟨rs', p3, e4⟩ := Option.map_eq_some_iff.mp e3
  cases e4
  exact ⟨G, en, hs, en1, S, p1, fun vs G1 H1 T r => ⟨G1, ds, rs, r.uses T.sr p2, p3, fun J hJ => k J G1 H1 T (hJ G1)⟩⟩
theorem fa_mono {a : Av} {σ : St} {H : Hp} {Q Q' : List V → Hp → Prop} (h : FA K a σ H Q) (k : ∀ vs H, Q vs H → Q' vs H) : FA K a σ H Q' :=
  let ⟨G, en, hs, en', S, e1, q⟩ := h
  ⟨G, en, hs, en', S, e1, fun vs G' H' T r => k vs H' (q vs G' H' T r)⟩
theorem fi_range1 {a : Expr} {l : Av} (hm : X.mg "range" = none) (ha : PA X [a] (FA X.K l)) (hg : Gl X "range" := by rfl) (hs : starEach [a] X.env = [(false, eval a X.env)] := by rfl) : PI X tg (.Call (.Name "range" p) [a] [] pos) (FI Rep X.K (itR l range1D)) :=
  pi_imp (pi_range1 hg hm ha hs) fun σ H R h => fa_mono (itR_of h) fun vs H1 ⟨G, ds, rs, u, e2, k2⟩ => by
    unfold range1D at e2
    split at e2
    · rename_i j
      obtain ⟨hl, e3⟩ := ite_some e2
      cases e3
      obtain ⟨v, rfl, u1⟩ := u.one
      obtain ⟨q1, q2⟩ := inLine_of hl
      exact ⟨j, by rw [u1.int], q1, q2, k2 _ fun _ => jok_rng1⟩
    · cases e2
theorem fi_range2 {a b : Expr} {l : Av} (hm : X.mg "range" = none) (ha : PA X [a, b] (FA X.K l)) (hg : Gl X "range" := by rfl) (hs : starEach [a, b] X.env = [(false, eval a X.env), (false, eval b X.env)] := by rfl) (hs2 : starEach [b] X.env = [(false, eval b X.env)] := by rfl) : PI X tg (.Call (.Name "range" p) [a, b] [] pos) (FI Rep X.K (itR l range2D)) :=
  pi_imp (pi_range2 hg hm ha hs hs2) fun σ H R h => fa_mono (itR_of h) fun vs H1 ⟨G, ds, rs, u, e2, k2⟩ => by
    unfold range2D at e2
    split at e2
    · rename_i i j
      obtain ⟨hl, e3⟩ := ite_some e2
      cases e3
      obtain ⟨v, w, rfl, u1, u2⟩ := u.two
      obtain ⟨h1, h2⟩ := Bool.and_eq_true_iff.mp hl
      obtain ⟨q1, q2⟩ := inLine_of h1
      obtain ⟨q3, q4⟩ := inLine_of h2
      exact ⟨i, j, by rw [u1.int, u2.int], ⟨q1, q2, q3, q4⟩, k2 _ fun _ => jok_rng1⟩
    · cases e2
theorem Uses.three {G H : Hp} {vs : List V} {a b c : D} (u : Uses K G H vs [a, b, c]) : ∃ v w z, vs = [v, w, z] ∧ Use K G H v a ∧ Use K G H w b ∧ Use K G H z c := by
  cases u with
  | cons h r => obtain ⟨w, z, rfl, h2, h3⟩ := r.two; exact ⟨_, _, _, rfl, h, h2, h3⟩
theorem fi_range3 {a b c : Expr} {l : Av} (hm : X.mg "range" = none) (ha : PA X [a, b, c] (FA X.K l)) (hg : Gl X "range" := by rfl) (hs : starEach [a, b, c] X.env = (false, eval a X.env) :: starEach [b, c] X.env := by rfl) (hpl : (backTo pos (starEach [b, c] X.env)).any (·.1) = false := by rfl) : PI X tg (.Call (.Name "range" p) [a, b, c] [] pos) (FI Rep X.K (itR l range3D)) :=
  pi_imp (pi_range3 hg hm ha hs hpl) fun σ H R h => fa_mono (itR_of h) fun vs H1 ⟨G, ds, rs, u, e2, k2⟩ => by
    unfold range3D at e2
    split at e2
    · rename_i i j c
      obtain ⟨hl, e3⟩ := ite_some e2
      cases e3
      obtain ⟨v, w, z, rfl, u1, u2, u3⟩ := u.three
      obtain ⟨h12, h3⟩ := Bool.and_eq_true_iff.mp hl
      obtain ⟨h1, h2⟩ := Bool.and_eq_true_iff.mp h12
      obtain ⟨q1, q2⟩ := inLine_of h1
      obtain ⟨q3, q4⟩ := inLine_of h2
      have hc : c = -1 := of_decide_eq_true h3
      exact ⟨i, j, -1, (i - j).toNat, by rw [u1.int, u2.int, u3.int, hc], RgC.neg q1 q2 q3 q4, k2 _ fun _ => jok_rng⟩
    · cases e2
end

/-! ### operators: numbers -/
section
variable {K : PySem.W.Frag}
def isI (g : Int → Int → Option D) : D → D → Option (D × Bool)
  | .int i, .int j => (g i j).map fun z => (z, false)
  | _, _ => none
theorem op2_int {r : R2} {g : Int → Int → Option D} (h : ∀ i j z (H : Hp) Q, g i j = some z → (∀ v, (∀ G, Rep K G v z) → Q v H) → r (.int i) (.int j) H Q) : Op2 K r (isI g) := by
  intro x y d e z b G H Q s u1 u2 hg k
  unfold isI at hg
  split at hg
  · rename_i i j
    obtain ⟨z', q1, q2⟩ := Option.map_eq_some_iff.mp hg
    cases q2
    rw [u1.int, u2.int]
    exact h i j z H Q q1 fun v hv => k v G H (New.refl s) (Fresh.sh (hv G))
  · cases hg
def iAdd : Int → Int → Option D := fun i j => some (.int (i + j))
def iSub : Int → Int → Option D := fun i j => some (.int (i - j))
def iMul : Int → Int → Option D := fun i j => if i.natAbs < 18446744073709551616 ∨ j.natAbs < 18446744073709551616 then some (.int (i * j)) else none
def iDiv : Int → Int → Option D := fun i j => if 0 < j ∧ j < 1073741824 then some (.int (i / j)) else none
def iMod : Int → Int → Option D := fun i j => if 0 < j then some (.int (i % j)) else none
def iPow : Int → Int → Option D := fun i j => if 0 ≤ j ∧ j ≤ 1000000 ∧ i.natAbs < 18446744073709551616 then some (.int (i ^ j.toNat)) else none
def iShl : Int → Int → Option D := fun i j => if 0 ≤ j ∧ j ≤ 1000000 ∧ i.natAbs < 18446744073709551616 then some (.int (i * 2 ^ j.toNat)) else none
def iLt : Int → Int → Option D := fun i j => some (.bool (decide (i < j)))
def iLe : Int → Int → Option D := fun i j => some (.bool (decide (i ≤ j)))
def iGt : Int → Int → Option D := fun i j => some (.bool (decide (j < i)))
def iGe : Int → Int → Option D := fun i j => some (.bool (decide (j ≤ i)))
theorem two64 {i : Int} (h : i.natAbs < 18446744073709551616) : -(2 ^ 64) < i ∧ i < 2 ^ 64 := by
  constructor <;> omega
theorem o2_sub : Op2 K (rI0 fun i j => .int (i - j)) (isI iSub) := op2_int fun i j z H Q e k => ⟨i, j, rfl, rfl, k _ (by cases e; exact fun _ => .int _)⟩
theorem o2_mulI : Op2 K (rI CMul fun i j => .int (i * j)) (isI iMul) := op2_int fun i j z H Q e k => by
  obtain ⟨h, e⟩ := ite_some e
  exact ⟨i, j, rfl, rfl, h.elim (fun h => .inl (two64 h)) (fun h => .inr (two64 h)), k _ (by cases e; exact fun _ => .int _)⟩
theorem o2_div : Op2 K (rI CDiv fun i j => .int (i / j)) (isI iDiv) := op2_int fun i j z H Q e k => by
  obtain ⟨h, e⟩ := ite_some e
  exact ⟨i, j, rfl, rfl, h, k _ (by cases e; exact fun _ => .int _)⟩
theorem o2_mod : Op2 K (rI (fun _ j => 0 < j) fun i j => .int (i % j)) (isI iMod) := op2_int fun i j z H Q e k => by
  obtain ⟨h, e⟩ := ite_some e
  exact ⟨i, j, rfl, rfl, h, k _ (by cases e; exact fun _ => .int _)⟩
theorem o2_pow : Op2 K (rI CPow fun i j => .int (i ^ j.toNat)) (isI iPow) := op2_int fun i j z H Q e k => by
  obtain ⟨h, e⟩ := ite_some e
  exact ⟨i, j, rfl, rfl, h, k _ (by cases e; exact fun _ => .int _)⟩
theorem o2_shl : Op2 K (rI CPow fun i j => .int (i * 2 ^ j.toNat)) (isI iShl) := op2_int fun i j z H Q e k => by
  obtain ⟨h, e⟩ := ite_some e
  exact ⟨i, j, rfl, rfl, h, k _ (by cases e; exact fun _ => .int _)⟩
theorem o2_ltI : Op2 K (rI0 fun i j => .bl (decide (i < j))) (isI iLt) := op2_int fun i j z H Q e k => ⟨i, j, rfl, rfl, k _ (by cases e; exact fun _ => .bl _)⟩
theorem o2_leI : Op2 K (rI0 fun i j => .bl (decide (i ≤ j))) (isI iLe) := op2_int fun i j z H Q e k => ⟨i, j, rfl, rfl, k _ (by cases e; exact fun _ => .bl _)⟩
theorem o2_gtI : Op2 K (rI0 fun i j => .bl (decide (j < i))) (isI iGt) := op2_int fun i j z H Q e k => ⟨i, j, rfl, rfl, k _ (by cases e; exact fun _ => .bl _)⟩
theorem o2_geI : Op2 K (rI0 fun i j => .bl (decide (j ≤ i))) (isI iGe) := op2_int fun i j z H Q e k => ⟨i, j, rfl, rfl, k _ (by cases e; exact fun _ => .bl _)⟩
def dNeg : D → Option (D × Bool)
  | .int i => some (.int (-i), false)
  | _ => none
theorem o1_neg : Op1 K (rU fun i => .int (-i)) dNeg := fun x d z b G H Q s u hg k => by
  unfold dNeg at hg
  split at hg
  · cases hg
    exact ⟨_, u.int, k _ G H (New.refl s) (Fresh.sh (.int _))⟩
  · cases hg

/-! ### +: numbers, lists, tuples, texts -/
/-- two lists of any standing -/
def rCatL (K : PySem.W.Frag) : R2 := fun x y H Q => ∃ l b xs zs, x = .ref l ∧ y = .ref b ∧ SqL K H l xs ∧ SqL K H b zs ∧ xs.length + zs.length ≤ sizeLine ∧ ∀ p, H p = none → Q (.ref p) (upd H p (.lst (xs ++ zs)))
theorem op_catL {X : Cx} : OpR X (binaryOp .Add) (rCatL X.K) := by
  intro pins s σ H x y v u Q I rx ry h
  obtain ⟨l, b, xs, zs, rfl, rfl, hL, hB, hz, q⟩ := h
  cases rx
  cases ry
  obtain ⟨its, r, ⟨⟨c1, d1, t1, s1⟩, n1, e1, f1, f2, f3⟩, z1⟩ := I.list hL
  obtain ⟨its2, r2, ⟨⟨c2, d2, t2, s2⟩, n2, e2, f4, f5, f6⟩, z2⟩ := I.list hB
  simp only at f1 f2 f3 f4 f5 f6
  subst f1 f2 f3 f4 f5 f6
  have hl1 := r.length
  have hl2 := r2.length
  refine concat_meets (s := s) ⟨_, e1, rfl⟩ ⟨_, e2, rfl⟩ PySem.noFill_list_add PySem.seq_list_add PySem.F.slot_list_add PySem.F.entry_list_add (PySem.F.args_list_add_2 _ _)
    (PyProof.Rows.list_addW l b its.toArray its2.toArray n1 n2 none none s1 s2 (by rw [List.size_toArray, List.size_toArray]; omega)) ⟨e1, e2, ?_⟩
  rw [List.append_toArray]
  exact ⟨.ref _, _, I.lnew (t' := s.toks) (r.append r2) (by rw [List.length_append]; omega), rfl, q _ I.fresh⟩
def dAdd : D → D → Option (D × Bool)
  | .int i, .int j => some (.int (i + j), false)
  | .list a, .list b => if a.length + b.length ≤ sizeLine then some (.list (a ++ b), true) else none
  | .tuple a, .tuple b => if a.length + b.length ≤ sizeLine then some (.tuple (a ++ b), false) else none
  | .str a, .str b => if a.length + b.length ≤ sizeLine then some (.str (a ++ b), false) else none
  | _, _ => none
/-- two tuples; what is new stands exact -/
def rCatZ (K : PySem.W.Frag) : R2 := fun x y H Q => ∃ a b xs ys, x = .ref a ∧ y = .ref b ∧ SqT K H a xs ∧ SqT K H b ys ∧ xs.length + ys.length ≤ sizeLine ∧
  (xs = [] → Q (.ref b) H) ∧ (xs ≠ [] → ys = [] → Q (.ref a) H) ∧ (xs ≠ [] → ys ≠ [] → ∀ p o, H p = none → o.dict = none → Q (.ref p) (upd H p (.frz o (.tup (xs ++ ys)))))
theorem op_catZ {X : Cx} : OpR X (binaryOp .Add) (rCatZ X.K) := by
  intro pins s σ H x y v u Q I rx ry h
  obtain ⟨a, b, xs, ys, rfl, rfl, ha, hb, hz, q0, q1, q2⟩ := h
  cases rx
  cases ry
  obtain ⟨its, r1, p1, z1⟩ := I.tuple ha
  obtain ⟨its2, r2, p2, z2⟩ := I.tuple hb
  have l1 := r1.length
  have l2 := r2.length
  by_cases hx : its = []
  · subst hx
    cases r1
    exact cat_tup0 p1 p2 ⟨.ref b, H, I, rfl, q0 rfl⟩
  · have hx' : xs ≠ [] := fun e => hx (by rw [e] at r1; cases r1; rfl)
    refine HT.cat_tup p1 p2 hx (fun e => ⟨.ref a, H, I, rfl, q1 hx' (by rw [e] at r2; cases r2; rfl)⟩) (fun e => ?_) (by omega)
    have hy' : ys ≠ [] := fun e' => e (by rw [e'] at r2; cases r2; rfl)
    exact ⟨.ref _, _, inv_tupZ I (r1.append r2) (by rw [List.length_append]; exact hz), rfl, q2 hx' hy' _ _ (I.hok.fresh (Nat.le_refl _)) rfl⟩
abbrev rAdd (K : PySem.W.Frag) : R2 := fun x y H Q => ((rI0 fun i j => .int (i + j)) x y H Q ∨ rCatL K x y H Q) ∨ (rCatZ K x y H Q ∨ ∃ i j, x = .str i ∧ y = .str j ∧ i.length + j.length ≤ sizeLine ∧ Q (.str (i ++ j)) H)
theorem op_addD {X : Cx} : OpR X (binaryOp .Add) (rAdd X.K) := (op_add.or op_catL).or (op_catZ.or op_add_str)
theorem o2_add : Op2 K (rAdd K) dAdd := fun x y d e z b G H Q s u1 u2 hg k => by
  unfold dAdd at hg
  split at hg
  · cases hg
    exact .inl (.inl ⟨_, _, u1.int, u2.int, k _ G H (New.refl s) (Fresh.sh (.int _))⟩)
  · obtain ⟨hl, e⟩ := ite_some hg
    cases e
    obtain ⟨a, xs, rfl, h1, r1⟩ := u1.list s
    obtain ⟨c, ys, rfl, h2, r2⟩ := u2.list s
    exact .inl (.inr ⟨a, c, xs, ys, rfl, rfl, h1, h2, by rw [r1.length, r2.length]; exact hl, fun p hp => k _ _ _ (New.own s hp) (Fresh.new s hp (.lst (r1.append r2)))⟩)
  · obtain ⟨hl, e⟩ := ite_some hg
    cases e
    obtain ⟨a, xs, rfl, h1, r1⟩ := u1.tupG
    obtain ⟨c, ys, rfl, h2, r2⟩ := u2.tupG
    refine .inr (.inl ⟨a, c, xs, ys, rfl, rfl, seqT s h1.sq, seqT s h2.sq, by rw [r1.length, r2.length]; exact hl, fun e => ?_, fun _ e => ?_, fun _ _ p o hp ho => ?_⟩)
    · subst e
      cases r1
      exact k _ G H (New.refl s) (Fresh.sh (.tup h2 r2))
    · subst e
      cases r2
      rw [List.append_nil] at k
      exact k _ G H (New.refl s) (Fresh.sh (.tup h1 r1))
    · have N := New.shd (o := .frz o (.tup (xs ++ ys))) s hp
      exact k _ _ _ N (Fresh.sh (.tup (.inl ⟨o, upd_same, ho⟩) ((r1.append r2).mono N.ext.g)))
  · obtain ⟨hl, e⟩ := ite_some hg
    cases e
    exact .inr (.inr ⟨_, _, u1.str, u2.str, hl, k _ G H (New.refl s) (Fresh.sh (.str _))⟩)
  · cases hg

/-! ### x[i], x[i:j] -/
def dIx : D → D → Option (D × Bool)
  | .list ds, .int i => (atI ds i).map fun z => (z, false)
  | .tuple ds, .int i => (atI ds i).map fun z => (z, false)
  | .str z, .int i => if z.length ≤ sizeLine then (atI z.cps.toList i).map fun c => (.str ⟨#[c]⟩, false) else none
  | _, _ => none
theorem atI_reps {G : Hp} {xs : List V} {ds : List D} {i : Int} {d : D} (r : Reps K G xs ds) (h : atI ds i = some d) : ∃ v, atI xs i = some v ∧ Rep K G v d := by
  unfold atI at h ⊢
  obtain ⟨j, h1, h2⟩ := Option.bind_eq_some_iff.mp h
  obtain ⟨v, h3, h4⟩ := r.get' h2
  exact ⟨v, by rw [r.length, h1]; exact h3, h4⟩
theorem o2_ix : Op2 K (rIx K) dIx := fun x y d e z b G H Q s u1 u2 hg k => by
  unfold dIx at hg
  split at hg
  · obtain ⟨z', h1, h2⟩ := Option.map_eq_some_iff.mp hg
    cases h2
    obtain ⟨a, xs, rfl, h3, r⟩ := u1.list s
    obtain ⟨v, h4, h5⟩ := atI_reps r h1
    exact .inl ⟨a, xs, _, v, rfl, u2.int, h3, h4, k v G H (New.refl s) (Fresh.sh h5)⟩
  · obtain ⟨z', h1, h2⟩ := Option.map_eq_some_iff.mp hg
    cases h2
    obtain ⟨a, xs, rfl, h3, r⟩ := u1.tuple s
    obtain ⟨v, h4, h5⟩ := atI_reps r h1
    exact .inr (.inl ⟨a, xs, _, v, rfl, u2.int, h3, h4, k v G H (New.refl s) (Fresh.sh h5)⟩)
  · obtain ⟨hl, hg⟩ := ite_some hg
    obtain ⟨c, h1, h2⟩ := Option.map_eq_some_iff.mp hg
    cases h2
    exact .inr (.inr ⟨_, _, c, u1.str, u2.int, hl, h1, k _ G H (New.refl s) (Fresh.sh (.str _))⟩)
  · cases hg
def cutD {α : Type} (xs : List α) (lo hi : Option Int) : List α := (xs.drop (HT.sIx xs.length 0 lo)).take (HT.sIx xs.length xs.length hi - HT.sIx xs.length 0 lo)
theorem cut_reps {G : Hp} {xs : List V} {ds : List D} {lo hi : Option Int} (r : Reps K G xs ds) : Reps K G (cutV xs lo hi) (cutD ds lo hi) := by
  unfold cutV cutD
  rw [r.length]
  exact (r.drop _).take _
def dSl : D → Option Int → Option Int → Option (D × Bool)
  | .list ds, l, h => some (.list (cutD ds l h), true)
  | .tuple ds, l, h => some (.tuple (cutD ds l h), false)
  | _, _, _ => none
def rSlZ (K : PySem.W.Frag) : V → Option Int → Option Int → Hp → VK → Prop := fun x lo hi H Q => ∃ a xs, x = .ref a ∧ SqT K H a xs ∧
  (HT.sIx xs.length 0 lo = 0 ∧ HT.sIx xs.length xs.length hi = xs.length → Q (.ref a) H) ∧ (¬ (HT.sIx xs.length 0 lo = 0 ∧ HT.sIx xs.length xs.length hi = xs.length) → ∀ p o, H p = none → o.dict = none → Q (.ref p) (upd H p (.frz o (.tup (cutV xs lo hi)))))
theorem sl_Z {X : Cx} : SlR X (rSlZ X.K) := by
  intro pins s σ H x v vl vu lo hi sl Q I rx hs pl pu h
  obtain ⟨a, xs, rfl, hx, q1, q2⟩ := h
  cases rx
  obtain ⟨its, r, ht, hz⟩ := I.tuple hx
  have hlen : its.toArray.size = xs.length := by rw [List.size_toArray]; exact r.length.symm
  refine ⟨"tuple", _, PyProof.Rows.slot_tuple_getitem.lookup, ht.typeIs, ?_⟩
  by_cases hw : HT.sIx xs.length 0 lo = 0 ∧ HT.sIx xs.length xs.length hi = xs.length
  · exact getItem_tuple_whole ht hs pl pu (by rw [hlen]; exact hw) ⟨.ref a, H, I, rfl, q1 hw⟩
  · refine HT.getItem_tuple_cut ht hs pl pu (by rw [hlen]; exact hw) ?_ (by rw [hlen]; exact hz)
    have e : xs.length = its.length := r.length
    have rr : Vals (cutV xs lo hi) ((its.toArray.toList.drop (HT.sIx its.toArray.size 0 lo)).take (HT.sIx its.toArray.size its.toArray.size hi - HT.sIx its.toArray.size 0 lo)) := by
      rw [hlen]
      unfold cutV
      exact (Vals.drop _ (by simpa using r)).take _
    exact ⟨.ref _, _, inv_tupZ I rr (Nat.le_trans (cutV_length xs lo hi) hz), rfl, q2 hw _ _ (I.hok.fresh (Nat.le_refl _)) rfl⟩
abbrev rSlD (K : PySem.W.Frag) : V → Option Int → Option Int → Hp → VK → Prop := fun x lo hi H Q => rSlL K x lo hi H Q ∨ rSlZ K x lo hi H Q
theorem sl_D {X : Cx} : SlR X (rSlD X.K) := sl_list.or sl_Z
theorem os_sl : OpS K (rSlD K) dSl := fun x d l h z b G H Q s u hg k => by
  unfold dSl at hg
  split at hg
  · cases hg
    obtain ⟨a, xs, rfl, h1, r⟩ := u.list s
    exact .inl ⟨a, xs, rfl, h1, fun p hp => k _ _ _ (New.own s hp) (Fresh.new s hp (.lst (cut_reps r)))⟩
  · cases hg
    rename_i ds
    obtain ⟨a, xs, rfl, h1, r⟩ := u.tupG
    refine .inr ⟨a, xs, rfl, seqT s h1.sq, fun hh => ?_, fun _ p o hp ho => ?_⟩
    · have e : cutD ds l h = ds := by
        unfold cutD
        rw [r.length] at hh
        rw [hh.1, hh.2, List.drop_zero, Nat.sub_zero, List.take_length]
      rw [e] at k
      exact k _ G H (New.refl s) (Fresh.sh (.tup h1 r))
    · have N := New.shd (o := .frz o (.tup (cutV xs l h))) s hp
      exact k _ _ _ N (Fresh.sh (.tup (.inl ⟨o, upd_same, ho⟩) ((cut_reps r).mono N.ext.g)))
  · cases hg

/-! ### ==, in -/
mutual
theorem Rep.dp {H : Hp} : ∀ {v : V} {d : D}, Rep K H v d → d.canLay0 = true → Dp K H v d
  | _, _, .non, _ => .non
  | _, _, .bl b, _ => .bl b
  | _, _, .int i, _ => .int i
  | _, _, .str x, _ => .str x
  | _, _, .tup h r, c => .tup h.sq (Reps.dp r (by rw [PyData.canLay0] at c; exact c))
  | _, _, .lst h r, c => .lst h (Reps.dp r (by rw [PyData.canLay0] at c; exact c))
  | _, _, .dct _ _, c => by rw [PyData.canLay0] at c; cases c
theorem Reps.dp {H : Hp} : ∀ {v : List V} {d : List D}, Reps K H v d → PyData.canLayAll0 d = true → DpAll K H v d
  | _, _, .nil, _ => .nil
  | _, _, .cons h r, c => by
    rw [PyData.canLayAll0, Bool.and_eq_true_iff] at c
    exact .cons (Rep.dp h c.1) (Reps.dp r c.2)
end
theorem Use.dp {G H : Hp} {v : V} {d : D} (s : Same G H) (u : Use K G H v d) (c : d.canLay0 = true) : Dp K H v d := by
  rcases u with u | ⟨a, o, rfl, h, r⟩
  · exact (u.mono s).dp c
  · cases r with
    | lst r => exact .lst (.inl (.inl h)) ((r.mono s).dp (by rw [PyData.canLay0] at c; exact c))
    | dK r => rw [PyData.canLay0] at c; cases c
def dEq (d e : D) : Option (D × Bool) := if (SeqAt.shaped d && SeqAt.shaped e) = true then some (.bool (PyData.eqv d e), false) else none
def dNe (d e : D) : Option (D × Bool) := if (SeqAt.shaped d && SeqAt.shaped e) = true then some (.bool (!PyData.eqv d e), false) else none
theorem o2_eq : Op2 K (rEqD K) dEq := fun x y d e z b G H Q s u1 u2 hg k => by
  obtain ⟨hl, e1⟩ := ite_some hg
  cases e1
  obtain ⟨h1, h2⟩ := Bool.and_eq_true_iff.mp hl
  exact ⟨d, e, u1.dp s (SeqAt.canLay_of_shaped h1), u2.dp s (SeqAt.canLay_of_shaped h2), h1, h2, k _ G H (New.refl s) (Fresh.sh (.bl _))⟩
theorem o2_ne : Op2 K (rNeD K) dNe := fun x y d e z b G H Q s u1 u2 hg k => by
  obtain ⟨hl, e1⟩ := ite_some hg
  cases e1
  obtain ⟨h1, h2⟩ := Bool.and_eq_true_iff.mp hl
  exact ⟨d, e, u1.dp s (SeqAt.canLay_of_shaped h1), u2.dp s (SeqAt.canLay_of_shaped h2), h1, h2, k _ G H (New.refl s) (Fresh.sh (.bl _))⟩
/-- is there, by data: a list, a tuple, a text's part -/
def rInT (K : PySem.W.Frag) (neg : Bool) : R2 := fun x y H Q => ∃ d ds, Dp K H x d ∧ Dp K H y (.tuple ds) ∧ SeqAt.shaped d = true ∧ SeqAt.shaped (.tuple ds) = true ∧ Q (.bl (if neg then !ds.any fun z => PyData.eqv z d else ds.any fun z => PyData.eqv z d)) H
theorem op_inT {X : Cx} (hu : X.A.units + 65 < cLine) : OpR X (compareOp .In) (rInT X.K false) := by
  intro pins s σ H x y v u Q I rx ry h
  obtain ⟨d, ds, hd, he, sd, se, q⟩ := h
  obtain ⟨as, r1⟩ := Dp.reads I d x v hd rx
  obtain ⟨bs, r2⟩ := Dp.reads I (.tuple ds) y u he ry
  have c := SeqAt.canLay_of_shaped se
  rw [PyData.canLay0] at c
  refine SeqAt.in_tuple_reads r2 r1 c (SeqAt.canLay_of_shaped sd) ?_ ⟨.bl _, H, I, rfl, q⟩
  have : d.depth ≤ 64 := of_decide_eq_true (Bool.and_eq_true_iff.mp sd).2
  omega
theorem op_notInT {X : Cx} (hu : X.A.units + 65 < cLine) : OpR X (compareOp .NotIn) (rInT X.K true) := by
  intro pins s σ H x y v u Q I rx ry h
  obtain ⟨d, ds, hd, he, sd, se, q⟩ := h
  obtain ⟨as, r1⟩ := Dp.reads I d x v hd rx
  obtain ⟨bs, r2⟩ := Dp.reads I (.tuple ds) y u he ry
  have c := SeqAt.canLay_of_shaped se
  rw [PyData.canLay0] at c
  refine SeqAt.notIn_tuple_reads r2 r1 c (SeqAt.canLay_of_shaped sd) ?_ ⟨.bl _, H, I, rfl, q⟩
  have : d.depth ≤ 64 := of_decide_eq_true (Bool.and_eq_true_iff.mp sd).2
  omega
end
end Fx
/-! Fx7: dicts, what is in what, built-in functions. -/
namespace Fx
open PySem PySem.Spec L2
def keyOf : D → Option Key
  | .int i => some (.inl i)
  | .str x => some (.inr x)
  | _ => none
theorem keyOf_kD (k : Key) : keyOf (kD k) = some k := by cases k <;> rfl
def dictGet (es : List (D × D)) (k : Key) : Option D := (es.find? fun p => decide (keyOf p.1 = some k)).map (·.2)
def dictPut (es : List (D × D)) (k : Key) (d : D) : List (D × D) := if (es.any fun p => decide (keyOf p.1 = some k)) = true then es.map (fun p => if keyOf p.1 = some k then (p.1, d) else p) else es ++ [(kD k, d)]
def dictDrop (es : List (D × D)) (k : Key) : List (D × D) := es.filter fun p => decide (keyOf p.1 ≠ some k)
section
variable {K : PySem.W.Frag} {G H : Hp}
theorem RepKV.length : ∀ {kvs : List (Key × V)} {es : List (D × D)}, RepKV K G kvs es → kvs.length = es.length
  | _, _, .nil => rfl
  | _, _, .cons _ r => congrArg Nat.succ (RepKV.length r)
theorem key_dec (k j : Key) : decide (keyOf (kD j) = some k) = decide (j = k) := by
  rw [keyOf_kD]
  by_cases h : j = k
  · rw [h]; simp
  · rw [decide_eq_false h, decide_eq_false]
    exact fun e => h (Option.some.inj e)
theorem RepKV.get (k : Key) : ∀ {kvs : List (Key × V)} {es : List (D × D)}, RepKV K G kvs es → (valV kvs k = none ∧ dictGet es k = none) ∨ ∃ v d, valV kvs k = some v ∧ dictGet es k = some d ∧ Rep K G v d
  | _, _, .nil => .inl ⟨rfl, rfl⟩
  | _, _, .cons (k := j) (v := v) (d := d) (r := r) (s := s) h t => by
    have e : decide (keyOf (kD j) = some k) = decide (j = k) := key_dec k j
    by_cases hj : j = k
    · refine .inr ⟨v, d, valV_pos hj, ?_, h⟩
      unfold dictGet
      rw [List.find?_cons]
      show Option.map _ (match decide (keyOf (kD j) = some k) with | true => _ | false => _) = _
      rw [e, decide_eq_true hj]
      rfl
    · have e2 : dictGet ((kD j, d) :: s) k = dictGet s k := by
        unfold dictGet
        rw [List.find?_cons]
        show Option.map _ (match decide (keyOf (kD j) = some k) with | true => _ | false => _) = _
        rw [e, decide_eq_false hj]
      rw [valV_neg (p := (j, v)) hj, e2]
      exact RepKV.get k t
theorem RepKV.any (k : Key) : ∀ {kvs : List (Key × V)} {es : List (D × D)}, RepKV K G kvs es → (kvs.any fun kv => decide (kv.1 = k)) = es.any fun p => decide (keyOf p.1 = some k)
  | _, _, .nil => rfl
  | _, _, .cons (k := j) h t => by
    rw [List.any_cons, List.any_cons, RepKV.any k t]
    show (decide (j = k) || _) = (decide (keyOf (kD j) = some k) || _)
    rw [key_dec]
theorem RepKV.repl (k : Key) {v : V} {d : D} (h : Rep K G v d) : ∀ {kvs : List (Key × V)} {es : List (D × D)}, RepKV K G kvs es → RepKV K G (kvs.map fun kv => if kv.1 = k then (kv.1, v) else kv) (es.map fun p => if keyOf p.1 = some k then (p.1, d) else p)
  | _, _, .nil => .nil
  | _, _, .cons (k := j) (v := w) (d := e) q t => by
    rw [List.map_cons, List.map_cons]
    by_cases hj : j = k
    · show RepKV K G ((if j = k then (j, v) else (j, w)) :: _) ((if keyOf (kD j) = some k then (kD j, d) else (kD j, e)) :: _)
      rw [if_pos hj, if_pos (by rw [keyOf_kD, hj])]
      exact .cons h (RepKV.repl k h t)
    · show RepKV K G ((if j = k then (j, v) else (j, w)) :: _) ((if keyOf (kD j) = some k then (kD j, d) else (kD j, e)) :: _)
      rw [if_neg hj, if_neg (by rw [keyOf_kD]; exact fun z => hj (Option.some.inj z))]
      exact .cons q (RepKV.repl k h t)
theorem RepKV.append : ∀ {kvs kvs' : List (Key × V)} {es es' : List (D × D)}, RepKV K G kvs es → RepKV K G kvs' es' → RepKV K G (kvs ++ kvs') (es ++ es')
  | _, _, _, _, .nil, s => s
  | _, _, _, _, .cons h t, s => .cons h (RepKV.append t s)
theorem RepKV.put (k : Key) {v : V} {d : D} {kvs : List (Key × V)} {es : List (D × D)} (r : RepKV K G kvs es) (h : Rep K G v d) : RepKV K G (putK kvs k v) (dictPut es k d) := by
  unfold putK dictPut
  rw [r.any k]
  by_cases c : (es.any fun p => decide (keyOf p.1 = some k)) = true
  · rw [if_pos c, if_pos c]
    exact r.repl k h
  · rw [if_neg c, if_neg c]
    exact r.append (.cons h .nil)
theorem RepKV.drop (k : Key) : ∀ {kvs : List (Key × V)} {es : List (D × D)}, RepKV K G kvs es → RepKV K G (dropK kvs k) (dictDrop es k)
  | _, _, .nil => .nil
  | _, _, .cons (k := j) (v := w) (d := e) (r := r) (s := s) q t => by
    have ih := RepKV.drop k t
    unfold dropK dictDrop at ih ⊢
    rw [List.filter_cons, List.filter_cons]
    show RepKV K G (if decide (j ≠ k) = true then _ else _) (if decide (keyOf (kD j) ≠ some k) = true then _ else _)
    by_cases hj : j = k
    · rw [if_neg (by simp [hj]), if_neg (by simp [keyOf_kD, hj])]
      exact ih
    · rw [if_pos (by simp [hj]), if_pos (by rw [keyOf_kD]; simp [hj])]
      exact .cons q ih
theorem keyV {v : V} {d : D} {k : Key} (u : Use K G H v d) (h : keyOf d = some k) : v = kV k := by
  unfold keyOf at h
  split at h
  · cases h
    exact u.int
  · cases h
    exact u.str
  · cases h
theorem dget_of {a : Addr} {kvs : List (Key × V)} {k : Key} (h : Rd H a (.dK kvs)) : DGet H a (kV k) (valV kvs k) := .inl ⟨kvs, k, h, rfl, rfl⟩
end
/-! ### d[k], k in d -/
def rIxDD : R2 := fun x y H Q => ∃ a v, x = .ref a ∧ DGet H a y (some v) ∧ Q v H
theorem ix_dict {X : Cx} (hu : X.A.units + 1 < cLine) : IxR X rIxDD := by
  intro value slice pins s σ H x y v u Q I rx ry h hs
  obtain ⟨a, z, rfl, g, q⟩ := h
  cases rx
  exact PyProof.Rows.tail_any (dict_typeIs I g) PySem.F.slot_dict_getitem.lookup (d_getItem hu I g ry fun w' s3 I3 rw' => ⟨z, H, I3, rw', q⟩) hs
section
variable {K : PySem.W.Frag} {X : Cx}
/-- a subscript of anything -/
def dIxA : D → D → Option (D × Bool)
  | .dict es, k => (keyOf k).bind fun k => (dictGet es k).map fun d => (d, false)
  | x, k => dIx x k
abbrev rIxA (K : PySem.W.Frag) : R2 := fun x y H Q => rIx K x y H Q ∨ rIxDD x y H Q
theorem ix_A (hu : X.A.units + 1 < cLine) : IxR X (rIxA X.K) := ix_seq.or (ix_dict hu)
theorem o2_ixA : Op2 K (rIxA K) dIxA := fun x y d e z b G H Q s u1 u2 hg k => by
  cases d with
  | dict es =>
    obtain ⟨kk, h1, h2⟩ := Option.bind_eq_some_iff.mp (show ((keyOf e).bind fun k => (dictGet es k).map fun d => (d, false)) = some (z, b) from hg)
    obtain ⟨d', h3, h4⟩ := Option.map_eq_some_iff.mp h2
    cases h4
    obtain ⟨a, kvs, rfl, h5, r⟩ := u1.dict s
    rcases r.get kk with ⟨_, w⟩ | ⟨v, d2, w1, w2, w3⟩
    · rw [w] at h3
      cases h3
    · rw [w2] at h3
      cases h3
      exact .inr ⟨a, v, rfl, by rw [keyV u2 h1, ← w1]; exact dget_of h5, k v G H (New.refl s) (Fresh.sh w3)⟩
  | none => exact .inl (o2_ix x y _ e z b G H Q s u1 u2 hg k)
  | bool _ => exact .inl (o2_ix x y _ e z b G H Q s u1 u2 hg k)
  | int _ => exact .inl (o2_ix x y _ e z b G H Q s u1 u2 hg k)
  | str _ => exact .inl (o2_ix x y _ e z b G H Q s u1 u2 hg k)
  | list _ => exact .inl (o2_ix x y _ e z b G H Q s u1 u2 hg k)
  | tuple _ => exact .inl (o2_ix x y _ e z b G H Q s u1 u2 hg k)
def rInDD (neg : Bool) : R2 := fun x y H Q => ∃ a o, y = .ref a ∧ DGet H a x o ∧ Q (.bl (if neg then !o.isSome else o.isSome)) H
theorem op_inDD (hu : X.A.units + 1 < cLine) : OpR X (compareOp .In) (rInDD false) := by
  intro pins s σ H x y v u Q I rx ry h
  obtain ⟨a, o, rfl, g, q⟩ := h
  cases ry
  exact d_in hu I g rx fun s' I' => ⟨.bl o.isSome, H, I', rfl, q⟩
theorem op_notInDD (hu : X.A.units + 1 < cLine) : OpR X (compareOp .NotIn) (rInDD true) := by
  intro pins s σ H x y v u Q I rx ry h
  obtain ⟨a, o, rfl, g, q⟩ := h
  cases ry
  exact d_notIn hu I g rx fun s' I' => ⟨.bl (!o.isSome), H, I', rfl, q⟩
abbrev rInSg (neg : Bool) : R2 := fun x y H Q => ∃ (c : Nat) (z : Str), x = .str ⟨#[c]⟩ ∧ y = .str z ∧ Q (.bl (if neg then !decide (c ∈ z.cps.toList) else decide (c ∈ z.cps.toList))) H
theorem op_inSg : OpR X (compareOp .In) (rInSg false) := op_in_sign
theorem op_notInSg : OpR X (compareOp .NotIn) (rInSg true) := op_notIn_sign
/-- a text of one sign -/
def one1 : D → Option Nat
  | .str x => match x.cps.toList with
    | [c] => some c
    | _ => none
  | _ => none
theorem one1_of {d : D} {c : Nat} (h : one1 d = some c) : d = .str ⟨#[c]⟩ := by
  unfold one1 at h
  split at h
  · rename_i x
    split at h
    · rename_i c' q
      cases h
      obtain ⟨⟨l⟩⟩ := x
      have q' : l = [c] := q
      rw [q']
    · cases h
  · cases h
/-- is it there -/
def memD (x : D) : D → Option Bool
  | .list ds => if (SeqAt.shaped x && SeqAt.shaped (.list ds)) = true then some (ds.any fun z => PyData.eqv z x) else none
  | .tuple ds => if (SeqAt.shaped x && SeqAt.shaped (.tuple ds)) = true then some (ds.any fun z => PyData.eqv z x) else none
  | .dict es => (keyOf x).map fun k => (dictGet es k).isSome
  | .str z => (one1 x).map fun c => decide (c ∈ z.cps.toList)
  | _ => none
def dIn (x y : D) : Option (D × Bool) := (memD x y).map fun b => (.bool b, false)
def dNotIn (x y : D) : Option (D × Bool) := (memD x y).map fun b => (.bool (!b), false)
abbrev rInA (K : PySem.W.Frag) : R2 := fun x y H Q => (rInD K x y H Q ∨ rInT K false x y H Q) ∨ (rInDD false x y H Q ∨ rInSg false x y H Q)
abbrev rNotInA (K : PySem.W.Frag) : R2 := fun x y H Q => (rNotInD K x y H Q ∨ rInT K true x y H Q) ∨ (rInDD true x y H Q ∨ rInSg true x y H Q)
theorem op_inA (hu : X.A.units + 65 < cLine) : OpR X (compareOp .In) (rInA X.K) := ((op_inD hu).or (op_inT hu)).or ((op_inDD (by omega)).or op_inSg)
theorem op_notInA (hu : X.A.units + 65 < cLine) : OpR X (compareOp .NotIn) (rNotInA X.K) := ((op_notInD hu).or (op_notInT hu)).or ((op_notInDD (by omega)).or op_notInSg)
theorem memD_cases {x y : V} {d e : D} {c : Bool} {G H : Hp} (s : Same G H) (u1 : Use K G H x d) (u2 : Use K G H y e) (h : memD d e = some c) :
    (∃ ds, e = .list ds ∧ Dp K H x d ∧ Dp K H y e ∧ SeqAt.shaped d = true ∧ SeqAt.shaped e = true ∧ c = ds.any fun z => PyData.eqv z d) ∨
    (∃ ds, e = .tuple ds ∧ Dp K H x d ∧ Dp K H y e ∧ SeqAt.shaped d = true ∧ SeqAt.shaped e = true ∧ c = ds.any fun z => PyData.eqv z d) ∨
    (∃ a o, y = .ref a ∧ DGet H a x o ∧ c = o.isSome) ∨ (∃ (k : Nat) (z : Str), x = .str ⟨#[k]⟩ ∧ y = .str z ∧ c = decide (k ∈ z.cps.toList)) := by
  unfold memD at h
  split at h
  · obtain ⟨hl, h⟩ := ite_some h
    cases h
    obtain ⟨h1, h2⟩ := Bool.and_eq_true_iff.mp hl
    exact .inl ⟨_, rfl, u1.dp s (SeqAt.canLay_of_shaped h1), u2.dp s (SeqAt.canLay_of_shaped h2), h1, h2, rfl⟩
  · obtain ⟨hl, h⟩ := ite_some h
    cases h
    obtain ⟨h1, h2⟩ := Bool.and_eq_true_iff.mp hl
    exact .inr (.inl ⟨_, rfl, u1.dp s (SeqAt.canLay_of_shaped h1), u2.dp s (SeqAt.canLay_of_shaped h2), h1, h2, rfl⟩)
  · obtain ⟨k, h1, h2⟩ := Option.map_eq_some_iff.mp h
    obtain ⟨a, kvs, rfl, h5, r⟩ := u2.dict s
    refine .inr (.inr (.inl ⟨a, valV kvs k, rfl, by rw [keyV u1 h1]; exact dget_of h5, ?_⟩))
    rcases r.get k with ⟨w1, w2⟩ | ⟨v, d2, w1, w2, w3⟩
    · rw [w1, ← h2, w2]; rfl
    · rw [w1, ← h2, w2]; rfl
  · obtain ⟨n, h1, h2⟩ := Option.map_eq_some_iff.mp h
    have e := one1_of h1
    subst e
    exact .inr (.inr (.inr ⟨_, _, u1.str, u2.str, h2.symm⟩))
  · cases h
theorem o2_in : Op2 K (rInA K) dIn := fun x y d e z b G H Q s u1 u2 hg k => by
  obtain ⟨c, h1, h2⟩ := Option.map_eq_some_iff.mp hg
  cases h2
  have q := k _ G H (New.refl s) (Fresh.sh (.bl c))
  rcases memD_cases s u1 u2 h1 with ⟨ds, rfl, a1, a2, a3, a4, rfl⟩ | ⟨ds, rfl, a1, a2, a3, a4, rfl⟩ | ⟨a, o, rfl, g, rfl⟩ | ⟨n, w, rfl, rfl, rfl⟩
  · exact .inl (.inl ⟨_, ds, a1, a2, a3, a4, q⟩)
  · exact .inl (.inr ⟨_, ds, a1, a2, a3, a4, q⟩)
  · exact .inr (.inl ⟨a, o, rfl, g, q⟩)
  · exact .inr (.inr ⟨n, w, rfl, rfl, q⟩)
theorem o2_notIn : Op2 K (rNotInA K) dNotIn := fun x y d e z b G H Q s u1 u2 hg k => by
  obtain ⟨c, h1, h2⟩ := Option.map_eq_some_iff.mp hg
  cases h2
  have q := k _ G H (New.refl s) (Fresh.sh (.bl (!c)))
  rcases memD_cases s u1 u2 h1 with ⟨ds, rfl, a1, a2, a3, a4, rfl⟩ | ⟨ds, rfl, a1, a2, a3, a4, rfl⟩ | ⟨a, o, rfl, g, rfl⟩ | ⟨n, w, rfl, rfl, rfl⟩
  · exact .inl (.inl ⟨_, ds, a1, a2, a3, a4, q⟩)
  · exact .inl (.inr ⟨_, ds, a1, a2, a3, a4, q⟩)
  · exact .inr (.inl ⟨a, o, rfl, g, q⟩)
  · exact .inr (.inr ⟨n, w, rfl, rfl, q⟩)

/-! ### is None, is True -/
def rIsB (neg : Bool) (c : Bool) : R2 := fun x y H Q => y = .bl c ∧ (∀ n, x ≠ .ty n) ∧ (Q (.bl (if neg then !decide (x = .bl c) else decide (x = .bl c))) H)
theorem val_bl {x : V} {v : Value} {c : Bool} (r : RelV x v) : (v == Value.bool c) = decide (x = .bl c) := by
  cases x with
  | non => cases r; rfl
  | bl b =>
    cases r
    by_cases h : b = c
    · subst h; simp
    · rw [decide_eq_false (fun z => h (V.bl.inj z))]
      exact beq_false_of_ne fun z => h (Value.bool.inj z)
  | int _ => obtain ⟨t, rfl⟩ := r; rfl
  | str _ => obtain ⟨t, rfl⟩ := r; rfl
  | byt _ => obtain ⟨t, rfl⟩ := r; rfl
  | flt _ => obtain ⟨t, rfl⟩ := r; rfl
  | ref _ => cases r; rfl
  | ty _ => cases r; rfl
theorem op_isB {c : Bool} : OpR X (compareOp .Is) (rIsB false c) := by
  intro pins s σ H x y v u Q I rx ry h
  obtain ⟨rfl, hn, q⟩ := h
  cases ry
  have e := val_bl (c := c) rx
  have fin : EP X pins σ Q (.bool (v == Value.bool c)) s := ⟨.bl (decide (x = .bl c)), H, I, by rw [e]; rfl, q⟩
  cases x with
  | ty n => exact absurd rfl (hn n)
  | non => cases rx; exact wpAny_pure fin
  | bl b => cases rx; exact wpAny_pure fin
  | int _ => obtain ⟨t, rfl⟩ := rx; exact wpAny_pure fin
  | str _ => obtain ⟨t, rfl⟩ := rx; exact wpAny_pure fin
  | byt _ => obtain ⟨t, rfl⟩ := rx; exact wpAny_pure fin
  | flt _ => obtain ⟨t, rfl⟩ := rx; exact wpAny_pure fin
  | ref _ => cases rx; exact wpAny_pure fin
theorem op_isNotB {c : Bool} : OpR X (compareOp .IsNot) (rIsB true c) := by
  intro pins s σ H x y v u Q I rx ry h
  obtain ⟨rfl, hn, q⟩ := h
  cases ry
  have e := val_bl (c := c) rx
  have fin : EP X pins σ Q (.bool (!(v == Value.bool c))) s := ⟨.bl (!decide (x = .bl c)), H, I, by rw [e]; rfl, q⟩
  cases x with
  | ty n => exact absurd rfl (hn n)
  | non => cases rx; exact wpAny_pure fin
  | bl b => cases rx; exact wpAny_pure fin
  | int _ => obtain ⟨t, rfl⟩ := rx; exact wpAny_pure fin
  | str _ => obtain ⟨t, rfl⟩ := rx; exact wpAny_pure fin
  | byt _ => obtain ⟨t, rfl⟩ := rx; exact wpAny_pure fin
  | flt _ => obtain ⟨t, rfl⟩ := rx; exact wpAny_pure fin
  | ref _ => cases rx; exact wpAny_pure fin
def isBD (c : Bool) : D → Bool
  | .bool b => b == c
  | _ => false
def isND : D → Bool
  | .none => true
  | _ => false
theorem use_ty {G H : Hp} {x : V} {d : D} (u : Use K G H x d) : ∀ n, x ≠ .ty n := fun n e => by
  subst e
  rcases u with u | ⟨a, o, e, _⟩
  · cases u
  · cases e
theorem use_bl {G H : Hp} {x : V} {d : D} {c : Bool} (u : Use K G H x d) : decide (x = .bl c) = isBD c d := by
  cases d with
  | bool b =>
    rw [u.bool]
    by_cases h : b = c
    · subst h; simp [isBD]
    · rw [decide_eq_false (fun z => h (V.bl.inj z))]
      exact (beq_false_of_ne h).symm
  | none => rw [u.none]; rfl
  | int i => rw [u.int]; rfl
  | str z => rw [u.str]; rfl
  | list ds =>
    refine decide_eq_false fun e => ?_
    subst e
    rcases u with u | ⟨a, o, e, _⟩
    · cases u
    · cases e
  | tuple ds =>
    refine decide_eq_false fun e => ?_
    subst e
    rcases u with u | ⟨a, o, e, _⟩
    · cases u
    · cases e
  | dict ds =>
    refine decide_eq_false fun e => ?_
    subst e
    rcases u with u | ⟨a, o, e, _⟩
    · cases u
    · cases e
theorem use_non {G H : Hp} {x : V} {d : D} (u : Use K G H x d) : decide (x = .non) = isND d := by
  cases d with
  | none => rw [u.none]; rfl
  | bool b => rw [u.bool]; rfl
  | int i => rw [u.int]; rfl
  | str z => rw [u.str]; rfl
  | list ds =>
    refine decide_eq_false fun e => ?_
    subst e
    rcases u with u | ⟨a, o, e, _⟩
    · cases u
    · cases e
  | tuple ds =>
    refine decide_eq_false fun e => ?_
    subst e
    rcases u with u | ⟨a, o, e, _⟩
    · cases u
    · cases e
  | dict ds =>
    refine decide_eq_false fun e => ?_
    subst e
    rcases u with u | ⟨a, o, e, _⟩
    · cases u
    · cases e
def fIs (p : Ov) (g : D → Bool) : Ev := f1 p fun d => some (.bool (g d), false)
theorem t2c_of {p : Ov} {r : R2} {c : V} {g : D → Bool} {σ : St} {H : Hp} {Q : VK} (hr : ∀ x d G H Q, Use K G H x d → Q (.bl (g d)) H → r x c H Q) (h : FE K (fIs p g) σ H Q) : tOp r (FO K p) (tC c) σ H Q := by
  obtain ⟨G, en, z, b, en', S, e1, k⟩ := h
  obtain ⟨⟨x, en1⟩, p1, e2⟩ := Option.bind_eq_some_iff.mp e1
  obtain ⟨d, p3, e4⟩ := Option.bind_eq_some_iff.mp e2
  cases e4
  exact ⟨G, en, x, _, S, p1, fun v G1 H1 T1 r1 => hr v d G1 H1 Q (r1.use T1.sr p3) (k _ G1 H1 T1 (Rep.bl _))⟩
variable {a b : Expr} {pos pos' : Pos}
theorem fe_isN {p : Ov} {j} (ha : PE X a (FO X.K p)) : PE X (.Compare a [.Is] [.Constant .none j pos'] pos) (FE X.K (fIs p isND)) :=
  pe_imp (pe_cmpR op_isN ha pe_non rfl) fun _ _ _ h => t2c_of (fun x d G H Q u q => ⟨rfl, by rw [use_non u]; exact q⟩) h
theorem fe_notN {p : Ov} {j} (ha : PE X a (FO X.K p)) : PE X (.Compare a [.IsNot] [.Constant .none j pos'] pos) (FE X.K (fIs p fun d => !isND d)) :=
  pe_imp (pe_cmpR op_notN ha pe_non rfl) fun _ _ _ h => t2c_of (fun x d G H Q u q => ⟨rfl, by rw [use_non u]; exact q⟩) h
theorem fe_isB {p : Ov} {c : Bool} {j} (ha : PE X a (FO X.K p)) : PE X (.Compare a [.Is] [.Constant (.bool c) j pos'] pos) (FE X.K (fIs p (isBD c))) :=
  pe_imp (pe_cmpR op_isB ha pe_bl rfl) fun _ _ _ h => t2c_of (fun x d G H Q u q => ⟨rfl, use_ty u, by rw [use_bl u]; exact q⟩) h
theorem fe_isNotB {p : Ov} {c : Bool} {j} (ha : PE X a (FO X.K p)) : PE X (.Compare a [.IsNot] [.Constant (.bool c) j pos'] pos) (FE X.K (fIs p fun d => !isBD c d)) :=
  pe_imp (pe_cmpR op_isNotB ha pe_bl rfl) fun _ _ _ h => t2c_of (fun x d G H Q u q => ⟨rfl, use_ty u, by rw [use_bl u]; exact q⟩) h

/-! ### isinstance -/
def tyD : D → String
  | .none => "NoneType"
  | .bool _ => "bool"
  | .int _ => "int"
  | .str _ => "str"
  | .list _ => "list"
  | .tuple _ => "tuple"
  | .dict _ => "dict"
theorem use_tyx {G H : Hp} {x : V} {d : D} (s : Same G H) (u : Use K G H x d) : TyX K H x (.type (tyD d)) := by
  cases d with
  | none => rw [u.none]; exact .base .non
  | bool b => rw [u.bool]; exact .base (.bl b)
  | int i => rw [u.int]; exact .base (.int i)
  | str z => rw [u.str]; exact .base (.str z)
  | list ds =>
    obtain ⟨a, xs, rfl, h, _⟩ := u.list s
    rcases h with (h | ⟨o, h⟩) | ⟨o, its, n, h, hc, _⟩
    · exact .base (.lst h)
    · exact .base (.frz h)
    · exact .kList h hc
  | tuple ds =>
    obtain ⟨a, xs, rfl, h, _⟩ := u.tuple s
    rcases h with (h | ⟨o, h⟩) | ⟨o, its, n, h, hc, _⟩
    · exact .base (.tup h)
    · exact .fTuple h
    · exact .kTuple h hc
  | dict es =>
    obtain ⟨a, kvs, rfl, h, _⟩ := u.dict s
    rcases h with h | ⟨o, h⟩
    · exact .base (.dK h)
    · exact .fDict h
def isT (T : String) (d : D) : Bool := (kitB (tyD d) T).getD false
def fIsi (p : Ov) (T : String) : Ev := f1 p fun d => (kitB (tyD d) T).map fun b => (.bool b, false)
theorem fe_isi {p : Ov} {T : String} {y : Str} {p1 p2 : Pos} (ha : PE X a (FO X.K p)) (hm : X.mg "isinstance" = none) (hT : X.mg y = none) (hv : bootBuiltins y = some (.type T) := by decide +kernel) (hg : Gl X "isinstance" := by rfl) (hgT : Gl X y := by rfl) (hn : y ≠ "__name__" := by decide) (hd : (y == ("__debug__" : Str)) = false := by decide)
    (he : starEach [a, .Name y p2] X.env = (false, eval a X.env) :: starEach [.Name y p2] X.env := by rfl) (he2 : starEach [.Name y p2] X.env = (false, eval (.Name y p2) X.env) :: starEach [] X.env := by rfl) (hpl : (backTo pos (starEach [.Name y p2] X.env)).any (·.1) = false := by rfl) :
    PE X (.Call (.Name "isinstance" p1) [a, .Name y p2] [] pos) (FE X.K (fIsi p T)) :=
  pe_imp (pe_callB call_isi hg hm (by decide +kernel) (pa_cons ha (pa_cons (pe_bltn (v := .ty T) hgT hT hv rfl hn hd) pa_nil he2) he) (by decide) (by decide) he hpl) fun σ H Q ⟨G, en, z, b, en', S, e1, k⟩ => by
    obtain ⟨⟨x, en1⟩, q1, e2⟩ := Option.bind_eq_some_iff.mp e1
    obtain ⟨d, q3, e4⟩ := Option.bind_eq_some_iff.mp e2
    obtain ⟨w, e5, e6⟩ := Option.map_eq_some_iff.mp e4
    obtain ⟨c, e7, e8⟩ := Option.map_eq_some_iff.mp e5
    cases e8
    cases e6
    exact ⟨G, en, x, _, S, q1, fun v G1 H1 T1 r1 => ⟨v, _, _, _, c, rfl, .ty T, use_tyx T1.sr.sub (r1.use T1.sr q3), kit_ty e7, k _ G1 H1 T1 (Rep.bl c)⟩⟩
end
end Fx
/-! Fx8: calls of built-ins, dicts that are made. -/
namespace Fx
open PySem PySem.Spec L2
section
variable {K : PySem.W.Frag} {X : Cx} {a b e : Expr} {pos p : Pos}
/-! ### len, abs, int, max, min -/
def lenD : D → Option Nat
  | .list ds => some ds.length
  | .tuple ds => some ds.length
  | .str z => if z.length ≤ sizeLine then some z.length else none
  | .dict es => some es.length
  | _ => none
def dLen : List D → Option (D × Bool)
  | [d] => (lenD d).map fun n => (.int (n : Nat), false)
  | _ => none
abbrev rLenA (K : PySem.W.Frag) : List V → Hp → VK → Prop := fun xs H Q => (∃ x n, xs = [x] ∧ LenV K x H n ∧ Q (.int (n : Nat)) H) ∨ (∃ a kvs, xs = [.ref a] ∧ Rd H a (.dK kvs) ∧ Q (.int (kvs.length : Nat)) H)
theorem cr_lenA : CallR X (.builtin "len") (rLenA X.K) := by
  refine call_len.or ?_
  intro pins s σ H xs us Q I r ⟨a, kvs, e, h, q⟩
  subst e
  obtain ⟨u, rfl, rx⟩ := Vals.one r
  cases rx
  exact d_len I h fun t s' I' => ⟨.int (kvs.length : Nat), H, I', ⟨t, rfl⟩, q⟩
theorem on_len : OpN K (rLenA K) dLen := fun vs ds z b G H Q s u hg k => by
  unfold dLen at hg
  split at hg
  · obtain ⟨n, h1, h2⟩ := Option.map_eq_some_iff.mp hg
    cases h2
    obtain ⟨v, rfl, u0⟩ := u.one
    have q := k (.int (n : Nat)) G H (New.refl s) (Fresh.sh (.int _))
    unfold lenD at h1
    split at h1
    · cases h1
      obtain ⟨a, xs, rfl, h, r⟩ := u0.list s
      exact .inl ⟨_, _, rfl, .inl ⟨xs, h, r.length.symm⟩, q⟩
    · cases h1
      obtain ⟨a, xs, rfl, h, r⟩ := u0.tuple s
      exact .inl ⟨_, _, rfl, .inr ⟨xs, h, r.length.symm⟩, q⟩
    · obtain ⟨hl, h1⟩ := ite_some h1
      cases h1
      rw [u0.str]
      exact .inl ⟨_, _, rfl, ⟨hl, rfl⟩, q⟩
    · cases h1
      obtain ⟨a, kvs, rfl, h, r⟩ := u0.dict s
      exact .inr ⟨a, kvs, rfl, h, by rw [r.length]; exact q⟩
    · cases h1
  · cases hg
def dAbs : List D → Option (D × Bool)
  | [.int i] => some (.int (if i < 0 then -i else i), false)
  | _ => none
theorem on_abs : OpN K (fun xs H Q => ∃ i, xs = [V.int i] ∧ Q (V.int (if i < 0 then -i else i)) H) dAbs := fun vs ds z b G H Q s u hg k => by
  unfold dAbs at hg
  split at hg
  · cases hg
    obtain ⟨v, rfl, u0⟩ := u.one
    exact ⟨_, by rw [u0.int], k _ G H (New.refl s) (Fresh.sh (.int _))⟩
  · cases hg
def dInt : List D → Option (D × Bool)
  | [.int i] => some (.int i, false)
  | [.bool c] => some (.int (if c = true then 1 else 0), false)
  | _ => none
theorem on_int : OpN K (fun xs H Q => (∃ i, xs = [V.int i] ∧ Q (V.int i) H) ∨ ∃ k, xs = [V.bl k] ∧ Q (V.int (if k = true then 1 else 0)) H) dInt := fun vs ds z b G H Q s u hg k => by
  unfold dInt at hg
  split at hg
  · cases hg
    obtain ⟨v, rfl, u0⟩ := u.one
    exact .inl ⟨_, by rw [u0.int], k _ G H (New.refl s) (Fresh.sh (.int _))⟩
  · cases hg
    obtain ⟨v, rfl, u0⟩ := u.one
    exact .inr ⟨_, by rw [u0.bool], k _ G H (New.refl s) (Fresh.sh (.int _))⟩
  · cases hg
def dMax2 : List D → Option (D × Bool)
  | [.int i, .int j] => some (.int (if j > i then j else i), false)
  | _ => none
def dMin2 : List D → Option (D × Bool)
  | [.int i, .int j] => some (.int (if j < i then j else i), false)
  | _ => none
theorem on_max2 : OpN K (fun xs H Q => ∃ i j, xs = [V.int i, V.int j] ∧ Q (V.int (if j > i then j else i)) H) dMax2 := fun vs ds z b G H Q s u hg k => by
  unfold dMax2 at hg
  split at hg
  · cases hg
    obtain ⟨v, w, rfl, u1, u2⟩ := u.two
    exact ⟨_, _, by rw [u1.int, u2.int], k _ G H (New.refl s) (Fresh.sh (.int _))⟩
  · cases hg
theorem on_min2 : OpN K (fun xs H Q => ∃ i j, xs = [V.int i, V.int j] ∧ Q (V.int (if j < i then j else i)) H) dMin2 := fun vs ds z b G H Q s u hg k => by
  unfold dMin2 at hg
  split at hg
  · cases hg
    obtain ⟨v, w, rfl, u1, u2⟩ := u.two
    exact ⟨_, _, by rw [u1.int, u2.int], k _ G H (New.refl s) (Fresh.sh (.int _))⟩
  · cases hg
/-- a list of ints, of bools -/
def intsD : List D → Option (List Int)
  | [] => some []
  | .int i :: r => (intsD r).map fun is => i :: is
  | _ => none
def boolsD : List D → Option (List Bool)
  | [] => some []
  | .bool i :: r => (boolsD r).map fun is => i :: is
  | _ => none
theorem intsD_of {G : Hp} : ∀ {xs : List V} {ds : List D} {is : List Int}, Reps K G xs ds → intsD ds = some is → xs = is.map V.int
  | _, _, _, .nil, h => by cases h; rfl
  | _, _, is, .cons (d := d) h t, e => by
    cases d <;> first | (cases e; done) | skip
    obtain ⟨js, h1, h2⟩ := Option.map_eq_some_iff.mp e
    subst h2
    cases h
    rw [intsD_of t h1]
    rfl
theorem boolsD_of {G : Hp} : ∀ {xs : List V} {ds : List D} {is : List Bool}, Reps K G xs ds → boolsD ds = some is → xs = is.map V.bl
  | _, _, _, .nil, h => by cases h; rfl
  | _, _, is, .cons (d := d) h t, e => by
    cases d <;> first | (cases e; done) | skip
    obtain ⟨js, h1, h2⟩ := Option.map_eq_some_iff.mp e
    subst h2
    cases h
    rw [boolsD_of t h1]
    rfl
def dAll : List D → Option (D × Bool)
  | [.list ds] => (boolsD ds).map fun bs => (.bool (bs.all id), false)
  | _ => none
def dAny : List D → Option (D × Bool)
  | [.list ds] => (boolsD ds).map fun bs => (.bool (bs.any id), false)
  | _ => none
def dSum : List D → Option (D × Bool)
  | [.list ds] => (intsD ds).map fun is => (.int is.sum, false)
  | _ => none
theorem on_all : OpN K (rAll K) dAll := fun vs ds z b G H Q s u hg k => by
  unfold dAll at hg
  split at hg
  · obtain ⟨bs, h1, h2⟩ := Option.map_eq_some_iff.mp hg
    cases h2
    obtain ⟨v, rfl, u0⟩ := u.one
    obtain ⟨a, xs, rfl, h, r⟩ := u0.list s
    exact ⟨a, bs, rfl, by rw [← boolsD_of r h1]; exact h, k _ G H (New.refl s) (Fresh.sh (.bl _))⟩
  · cases hg
theorem on_any : OpN K (rAny K) dAny := fun vs ds z b G H Q s u hg k => by
  unfold dAny at hg
  split at hg
  · obtain ⟨bs, h1, h2⟩ := Option.map_eq_some_iff.mp hg
    cases h2
    obtain ⟨v, rfl, u0⟩ := u.one
    obtain ⟨a, xs, rfl, h, r⟩ := u0.list s
    exact ⟨a, bs, rfl, by rw [← boolsD_of r h1]; exact h, k _ G H (New.refl s) (Fresh.sh (.bl _))⟩
  · cases hg
theorem on_sum : OpN K (rSum K) dSum := fun vs ds z b G H Q s u hg k => by
  unfold dSum at hg
  split at hg
  · obtain ⟨bs, h1, h2⟩ := Option.map_eq_some_iff.mp hg
    cases h2
    obtain ⟨v, rfl, u0⟩ := u.one
    obtain ⟨a, xs, rfl, h, r⟩ := u0.list s
    exact ⟨a, bs, rfl, by rw [← intsD_of r h1]; exact h, k _ G H (New.refl s) (Fresh.sh (.int _))⟩
  · cases hg
/-- the greatest, the least of a list -/
def maxI : List Int → Option Int
  | [] => none
  | i :: r => some (r.foldl (fun m j => if j > m then j else m) i)
def minI : List Int → Option Int
  | [] => none
  | i :: r => some (r.foldl (fun m j => if j < m then j else m) i)
theorem maxI_is {is : List Int} {m : Int} (h : maxI is = some m) : 0 < is.length ∧ m ∈ is ∧ ∀ j ∈ is, j ≤ m := by
  cases is with
  | nil => cases h
  | cons i r =>
    have go : ∀ (r : List Int) (i : Int), (r.foldl (fun m j => if j > m then j else m) i) ∈ i :: r ∧ ∀ j ∈ i :: r, j ≤ r.foldl (fun m j => if j > m then j else m) i := by
      intro r
      induction r with
      | nil => intro i; exact ⟨List.mem_cons_self .., fun j hj => by simp at hj; rw [hj]; exact Int.le_refl _⟩
      | cons c r ih =>
        intro i
        rw [List.foldl_cons]
        obtain ⟨h1, h2⟩ := ih (if c > i then c else i)
        refine ⟨?_, fun j hj => ?_⟩
        · rcases List.mem_cons.mp h1 with h1 | h1
          · rw [h1]
            by_cases hc : c > i
            · rw [if_pos hc]; simp
            · rw [if_neg hc]; simp
          · exact List.mem_cons_of_mem _ (List.mem_cons_of_mem _ h1)
        · have b0 := h2 _ (List.mem_cons_self ..)
          rcases List.mem_cons.mp hj with rfl | hj
          · by_cases hc : c > j
            · rw [if_pos hc] at b0 ⊢; omega
            · rw [if_neg hc] at b0 ⊢; exact b0
          · rcases List.mem_cons.mp hj with rfl | hj
            · by_cases hc : j > i
              · rw [if_pos hc] at b0 ⊢; exact b0
              · rw [if_neg hc] at b0 ⊢; omega
            · exact h2 j (List.mem_cons_of_mem _ hj)
    cases h
    exact ⟨Nat.succ_pos _, (go r i).1, (go r i).2⟩
theorem minI_is {is : List Int} {m : Int} (h : minI is = some m) : 0 < is.length ∧ m ∈ is ∧ ∀ j ∈ is, m ≤ j := by
  cases is with
  | nil => cases h
  | cons i r =>
    have go : ∀ (r : List Int) (i : Int), (r.foldl (fun m j => if j < m then j else m) i) ∈ i :: r ∧ ∀ j ∈ i :: r, r.foldl (fun m j => if j < m then j else m) i ≤ j := by
      intro r
      induction r with
      | nil => intro i; exact ⟨List.mem_cons_self .., fun j hj => by simp at hj; rw [hj]; exact Int.le_refl _⟩
      | cons c r ih =>
        intro i
        rw [List.foldl_cons]
        obtain ⟨h1, h2⟩ := ih (if c < i then c else i)
        refine ⟨?_, fun j hj => ?_⟩
        · rcases List.mem_cons.mp h1 with h1 | h1
          · rw [h1]
            by_cases hc : c < i
            · rw [if_pos hc]; simp
            · rw [if_neg hc]; simp
          · exact List.mem_cons_of_mem _ (List.mem_cons_of_mem _ h1)
        · have b0 := h2 _ (List.mem_cons_self ..)
          rcases List.mem_cons.mp hj with rfl | hj
          · by_cases hc : c < j
            · rw [if_pos hc] at b0 ⊢; omega
            · rw [if_neg hc] at b0 ⊢; exact b0
          · rcases List.mem_cons.mp hj with rfl | hj
            · by_cases hc : j < i
              · rw [if_pos hc] at b0 ⊢; exact b0
              · rw [if_neg hc] at b0 ⊢; omega
            · exact h2 j (List.mem_cons_of_mem _ hj)
    cases h
    exact ⟨Nat.succ_pos _, (go r i).1, (go r i).2⟩
def dMaxI : List D → Option (D × Bool)
  | [.list ds] => (intsD ds).bind fun is => (maxI is).map fun m => (.int m, false)
  | _ => none
def dMinI : List D → Option (D × Bool)
  | [.list ds] => (intsD ds).bind fun is => (minI is).map fun m => (.int m, false)
  | _ => none
theorem on_maxI : OpN K (rMax K) dMaxI := fun vs ds z b G H Q s u hg k => by
  unfold dMaxI at hg
  split at hg
  · obtain ⟨is, h1, h2⟩ := Option.bind_eq_some_iff.mp hg
    obtain ⟨m, h3, h4⟩ := Option.map_eq_some_iff.mp h2
    cases h4
    obtain ⟨v, rfl, u0⟩ := u.one
    obtain ⟨a, xs, rfl, h, r⟩ := u0.list s
    obtain ⟨w1, w2, w3⟩ := maxI_is h3
    refine ⟨a, is, rfl, by rw [← intsD_of r h1]; exact h, w1, fun m' h5 h6 => ?_⟩
    have e : m' = m := by have := w3 m' h5; have := h6 m w2; omega
    rw [e]
    exact k _ G H (New.refl s) (Fresh.sh (.int _))
  · cases hg
theorem on_minI : OpN K (rMin K) dMinI := fun vs ds z b G H Q s u hg k => by
  unfold dMinI at hg
  split at hg
  · obtain ⟨is, h1, h2⟩ := Option.bind_eq_some_iff.mp hg
    obtain ⟨m, h3, h4⟩ := Option.map_eq_some_iff.mp h2
    cases h4
    obtain ⟨v, rfl, u0⟩ := u.one
    obtain ⟨a, xs, rfl, h, r⟩ := u0.list s
    obtain ⟨w1, w2, w3⟩ := minI_is h3
    refine ⟨a, is, rfl, by rw [← intsD_of r h1]; exact h, w1, fun m' h5 h6 => ?_⟩
    have e : m' = m := by have := w3 m' h5; have := h6 m w2; omega
    rw [e]
    exact k _ G H (New.refl s) (Fresh.sh (.int _))
  · cases hg

/-! ### list(x), tuple(x) -/
def dList : List D → Option (D × Bool)
  | [.list ds] => some (.list ds, true)
  | [.tuple ds] => some (.list ds, true)
  | _ => none
theorem on_list : OpN K (fun xs H Q => ∃ p ys, xs = [V.ref p] ∧ (SqL K H p ys ∨ SqT K H p ys) ∧ ∀ l, H l = none → Q (.ref l) (upd H l (.lst ys))) dList := fun vs ds z b G H Q s u hg k => by
  unfold dList at hg
  split at hg
  · cases hg
    obtain ⟨v, rfl, u0⟩ := u.one
    obtain ⟨a, xs, rfl, h, r⟩ := u0.list s
    exact ⟨a, xs, rfl, .inl h, fun p hp => k _ _ _ (New.own s hp) (Fresh.new s hp (.lst r))⟩
  · cases hg
    obtain ⟨v, rfl, u0⟩ := u.one
    obtain ⟨a, xs, rfl, h, r⟩ := u0.tuple s
    exact ⟨a, xs, rfl, .inr h, fun p hp => k _ _ _ (New.own s hp) (Fresh.new s hp (.lst r))⟩
  · cases hg
def rTupOf (K : PySem.W.Frag) : List V → Hp → VK → Prop := fun xs H Q => ∃ p ys, xs = [V.ref p] ∧ ((SqL K H p ys ∧ ∀ l o, H l = none → o.dict = none → Q (.ref l) (upd H l (.frz o (.tup ys)))) ∨ (SqT K H p ys ∧ Q (.ref p) H))
theorem cr_tupOf : CallR X (.type "tuple") (rTupOf X.K) := by
  intro pins s σ H xs us Q I r ⟨p, ys, ex, h⟩
  subst ex
  obtain ⟨u, rfl, rx⟩ := Vals.one r
  cases rx
  rcases h with ⟨hq, q⟩ | ⟨hq, q⟩
  · obtain ⟨its, r', pl, hz⟩ := I.list hq
    have hlen := r'.length
    refine call_tuple_list pl.isList (fun h' kp => ?_) (by rw [List.size_toArray]; omega)
    have I1 : Inv X pins σ H { s with heap := h' } := I.kept (t' := s.toks) kp
    exact ⟨.ref _, _, inv_tupZ I1 r' hz, rfl, q _ _ (I1.hok.fresh (Nat.le_refl _)) rfl⟩
  · obtain ⟨its, r', pl, hz⟩ := I.tuple hq
    exact call_tuple_same pl ⟨.ref p, H, I, rfl, q⟩
def dTuple : List D → Option (D × Bool)
  | [.list ds] => some (.tuple ds, false)
  | [.tuple ds] => some (.tuple ds, false)
  | _ => none
theorem on_tuple : OpN K (rTupOf K) dTuple := fun vs ds z b G H Q s u hg k => by
  unfold dTuple at hg
  split at hg
  · cases hg
    obtain ⟨v, rfl, u0⟩ := u.one
    obtain ⟨a, xs, rfl, h, r⟩ := u0.list s
    refine ⟨a, xs, rfl, .inl ⟨h, fun p o hp ho => ?_⟩⟩
    have N := New.shd (o := .frz o (.tup xs)) s hp
    exact k _ _ _ N (Fresh.sh (.tup (.inl ⟨o, upd_same, ho⟩) (r.mono N.ext.g)))
  · cases hg
    obtain ⟨v, rfl, u0⟩ := u.one
    obtain ⟨a, xs, rfl, h, r⟩ := u0.tupG
    exact ⟨a, xs, rfl, .inr ⟨seqT s h.sq, k _ G H (New.refl s) (Fresh.sh (.tup h r))⟩⟩
  · cases hg

/-! ### dicts that are made -/
theorem fe_dnew : PE X (.Dict [] [] pos) (FE X.K fun en => some (.dict [], true, en)) := pe_imp pe_dnewK fun σ H Q ⟨G, en, d, b, en', S, e1, k⟩ => by
  cases e1
  intro q hq
  have N := New.own (o := .dK []) S.sub hq
  exact k _ _ _ (N.step S) (Fresh.res S (Fresh.new S.sub hq (.dK .nil)))
def pairsOf : List D → Option (List (Key × D))
  | [] => some []
  | .tuple [k, v] :: r => (keyOf k).bind fun k => (pairsOf r).map fun t => (k, v) :: t
  | _ => none
def mergeD (es : List (D × D)) (kvs : List (Key × D)) : List (D × D) := kvs.foldl (fun acc kv => dictPut acc kv.1 kv.2) es
inductive RepPs (K : PySem.W.Frag) (G : Hp) : List (Key × V) → List (Key × D) → Prop
  | nil : RepPs K G [] []
  | cons {k : Key} {v : V} {d : D} {r : List (Key × V)} {t : List (Key × D)} : Rep K G v d → RepPs K G r t → RepPs K G ((k, v) :: r) ((k, d) :: t)
theorem RepPs.merge {G : Hp} : ∀ {kvs : List (Key × V)} {ps : List (Key × D)} {acc : List (Key × V)} {es : List (D × D)}, RepPs K G kvs ps → RepKV K G acc es → RepKV K G (mergeK acc kvs) (mergeD es ps)
  | _, _, _, _, .nil, r => r
  | _, _, _, _, .cons (k := k) (v := v) (d := d) (r := rr) (t := tt) h t, r => by
    show RepKV K G (mergeK (mergeK _ [(k, v)]) rr) (mergeD (dictPut _ k d) tt)
    exact RepPs.merge t (by rename_i acc es; exact (r.put k h : RepKV K G (putK acc k v) (dictPut es k d)))
theorem pairs_reps {G H : Hp} (s : Same G H) : ∀ {xs : List V} {ds : List D} {ps : List (Key × D)}, Reps K G xs ds → pairsOf ds = some ps → ∃ (as : List Addr) (kvs : List (Key × V)), xs = as.map V.ref ∧ RepPs K G kvs ps ∧ Paired (fun p kv => SqT K H p [kV kv.1, kv.2]) as kvs
  | _, _, _, .nil, h => by cases h; exact ⟨[], [], rfl, .nil, .nil⟩
  | _, _, ps, .cons (d := d) h t, e => by
    cases d <;> first | (cases e; done) | skip
    rename_i l
    match l, h, e with
    | [kd, vd], h, e =>
      obtain ⟨k, h1, h2⟩ := Option.bind_eq_some_iff.mp e
      obtain ⟨t', h3, h4⟩ := Option.map_eq_some_iff.mp h2
      subst h4
      cases h with
      | tup hg hr =>
        cases hr with
        | cons r1 r2 =>
          cases r2 with
          | cons r2 r3 =>
            cases r3
            have e1 := keyV (H := H) (.inl r1) h1
            subst e1
            obtain ⟨as, kvs, w1, w2, w3⟩ := pairs_reps s t h3
            exact ⟨_ :: as, (k, _) :: kvs, by rw [w1]; rfl, .cons r2 w2, .cons (seqT s hg.sq) w3⟩
def rDictOf (K : PySem.W.Frag) : List V → Hp → VK → Prop := fun xs H Q => (∃ a kvs, xs = [V.ref a] ∧ Rd H a (.dK kvs) ∧ ∀ p, H p = none → Q (.ref p) (upd H p (.dK kvs))) ∨
  (∃ (a : Addr) (ps : List Addr) (kvs : List (Key × V)), xs = [V.ref a] ∧ (SqL K H a (ps.map V.ref) ∨ TupG K H a (ps.map V.ref)) ∧ Paired (fun p kv => SqT K H p [kV kv.1, kv.2]) ps kvs ∧ ∀ p, H p = none → Q (.ref p) (upd H p (.dK (mergeK [] kvs))))
theorem cr_dictOf (hc : X.calm = true) : CallR X (.type "dict") (rDictOf X.K) := by
  intro pins s σ H xs us Q I r h
  rcases h with ⟨a, kvs, ex, h, q⟩ | ⟨a, ps, kvs, ex, h | h, hp, q⟩
  · subst ex
    obtain ⟨u, rfl, rx⟩ := Vals.one r
    cases rx
    exact d_copyOf I h fun p s' hn I' => ⟨.ref p, _, I', rfl, q p hn⟩
  · exact call_dictP hc pins s σ H xs us Q I r ⟨a, ps, kvs, ex, h, hp, q⟩
  · subst ex
    obtain ⟨u, rfl, rx⟩ := Vals.one r
    cases rx
    obtain ⟨its, rv, pl, hz⟩ := I.tuple h.sq
    have ei := refs_at rv
    rw [List.length_map] at hz
    obtain ⟨prs, rel, hl, hpr⟩ := pairs_of I hp
    -- the tuple's object has no dict of its own
    have hseq : PlainSeq "tuple" s.heap a its.toArray := by
      obtain ⟨o, ho, hcls, n, hd⟩ := pl
      refine ⟨o, n, ho, hcls, ?_, hd⟩
      rcases h with ⟨o', h1, h2⟩ | ⟨o', its', n', h1, h2, h3, h4⟩
      · obtain ⟨e1, _⟩ := I.hok a _ h1
        rw [ho] at e1
        cases e1
        exact h2
      · have e1 := I.kIn a o' h1
        rw [ho] at e1
        cases e1
        exact h3
    have hU : ∀ j : Nat, ∃ u : Value, ∀ q' : Key × Value, prs[j]? = some q' → ∃ b : Addr, ps[j]? = some b ∧ PyProof.Rows.IsTup s.heap b #[u, q'.2] ∧ keyIs q'.1 u = true := by
      intro j
      cases e : (prs[j]? : Option (Key × Value)) with
      | none => exact ⟨.none, fun _ z => by cases z⟩
      | some q' =>
        obtain ⟨b, u, e1, e2, e3⟩ := hpr j q' e
        exact ⟨u, fun q2 z => by cases z; exact ⟨b, e1, e2, e3⟩⟩
    have hU2 := fun j => (hU j).choose_spec
    refine PySem.call_dict_pairs (knd := mixKind X.prog X.w) (kvs := prs) (PairArg.tuple a its.toArray (fun j => ps.getD j 0) (prs.mapIdx fun j q => ((hU j).choose, q.2))) (I.ok.hd hc) ⟨hseq, ?_, fun j kk v e => ?_⟩ ⟨?_, fun j kk v e => ?_⟩ ?_ fun h' tk hd' kp => ?_
    · rw [ei]; simp [hl]
    · rw [List.getElem?_mapIdx] at e
      obtain ⟨q', e1, e2⟩ := Option.map_eq_some_iff.mp e
      cases e2
      obtain ⟨b, w1, w2, w3⟩ := hU2 j q' e1
      refine ⟨?_, .inl ?_⟩
      · rw [ei]; simp [w1]
      · show s.heap.IsTuple (ps.getD j 0) _
        rw [show ps.getD j 0 = b by rw [List.getD_eq_getElem?_getD, w1]; rfl]
        exact w2
    · simp
    · have e' : (prs.mapIdx fun j q => ((hU j).choose, q.2))[j]? = some (kk, v) := e
      rw [List.getElem?_mapIdx] at e'
      obtain ⟨q', e1, e2⟩ := Option.map_eq_some_iff.mp e'
      cases e2
      obtain ⟨b, w1, w2, w3⟩ := hU2 j q' e1
      exact ⟨q'.1, e1, w3⟩
    · simp [hl]; exact hz
    · have hm : (s.heap.objs.size == sysModules) = false := beq_eq_false_iff_ne.mpr (Nat.ne_of_gt I.big)
      have hlen : (mergeK [] kvs).length ≤ sizeLine := by
        refine Nat.le_trans (length_mergeK kvs []) ?_
        rw [List.length_nil, Nat.zero_add, rel.length, hl]
        exact hz
      exact ⟨.ref s.heap.objs.size, upd H s.heap.objs.size (.dK (mergeK [] kvs)), I.laid (t' := tk) (fun b o e => kp b o (by simp) e) (Nat.le_refl _) (show ObjOk X.prog X.w _ _ _ (.dK (mergeK [] kvs)) from ⟨hlen, hm, merged [] prs, KV.merge rel .nil, hd'⟩), rfl, q _ (I.hok.fresh (Nat.le_refl _))⟩
def dDict : List D → Option (D × Bool)
  | [.dict es] => some (.dict es, true)
  | [.list ds] => (pairsOf ds).map fun ps => (.dict (mergeD [] ps), true)
  | [.tuple ds] => (pairsOf ds).map fun ps => (.dict (mergeD [] ps), true)
  | _ => none
theorem on_dict : OpN K (rDictOf K) dDict := fun vs ds z b G H Q s u hg k => by
  unfold dDict at hg
  split at hg
  · cases hg
    obtain ⟨v, rfl, u0⟩ := u.one
    obtain ⟨a, kvs, rfl, h, r⟩ := u0.dict s
    exact .inl ⟨a, kvs, rfl, h, fun p hp => k _ _ _ (New.own s hp) (Fresh.new s hp (.dK r))⟩
  · obtain ⟨ps, h1, h2⟩ := Option.map_eq_some_iff.mp hg
    cases h2
    obtain ⟨v, rfl, u0⟩ := u.one
    obtain ⟨a, xs, rfl, h, r⟩ := u0.list s
    obtain ⟨as, kvs, rfl, w2, w3⟩ := pairs_reps s r h1
    exact .inr ⟨a, as, kvs, rfl, .inl h, w3, fun p hp => k _ _ _ (New.own s hp) (Fresh.new s hp (.dK (w2.merge .nil)))⟩
  · obtain ⟨ps, h1, h2⟩ := Option.map_eq_some_iff.mp hg
    cases h2
    obtain ⟨v, rfl, u0⟩ := u.one
    obtain ⟨a, xs, rfl, h, r⟩ := u0.tupG
    obtain ⟨as, kvs, rfl, w2, w3⟩ := pairs_reps s r h1
    exact .inr ⟨a, as, kvs, rfl, .inr (h.mono s), w3, fun p hp => k _ _ _ (New.own s hp) (Fresh.new s hp (.dK (w2.merge .nil)))⟩
  · cases hg
end
end Fx
/-! Fx9: methods that write, stores into cells, several names at once, global constants. -/
namespace Fx
open PySem PySem.Spec L2
section
variable {K : PySem.W.Frag} {X : Cx} {a b e o : Expr} {es : List Expr} {pos p apos cpos : Pos}
theorem ext_upd {G H : Hp} {l : Addr} {u : HO} (hl : H l ≠ none) : Ext (fun x => x = l) G H G (upd H l u) := ⟨Same.refl _, fun b o h n => by rw [upd_ne n]; exact h, fun _ _ _ _ g => g, fun b h => by
  by_cases hb : b = l
  · rw [hb, upd_same] at h
    cases h
  · rwa [upd_ne hb] at h⟩
theorem same_upd' {G H : Hp} {l : Addr} {u : HO} (s : Same G H) (g : G l = none) : Same G (upd H l u) := fun b o e => by
  have hb : b ≠ l := fun z => by rw [z, g] at e; cases e
  rw [upd_ne hb]
  exact s b o e
/-! ### a method that writes its object, that a slot owns -/
def OpM (K : PySem.W.Frag) (r : V → List V → Hp → VK → Prop) (g : D → List D → Option (D × Bool × D)) : Prop :=
  ∀ (l : Addr) (o : HO) (d : D) (xs : List V) (ds : List D) (z : D) (b : Bool) (d' : D) (G H : Hp) (Q : VK), Same G H → G l = none → H l = some o → RepO K G o d → Reps K G xs ds → g d ds = some (z, b, d') →
    (∀ v G' H' o', Ext (fun x => x = l) G H G' H' → Same G' H' → G' l = none → H' l = some o' → RepO K G' o' d' → Res K (fun x => x = l) H (fun x => x = l) G' H' v z b → Q v H') → r (.ref l) xs H Q
/-- what a slot must hold -/
structure KindO (X : Cx) (T : String) (c : D → Bool) where
  ty : V → Hp → Prop
  ok : TyOk X T ty
  at_ : ∀ {G H : Hp} {l : Addr} {o : HO} {d : D}, Same G H → H l = some o → RepO X.K G o d → c d = true → ty (.ref l) H
  use : ∀ {G H : Hp} {v : V} {d : D}, Same G H → Use X.K G H v d → c d = true → ty v H
def isLst : D → Bool
  | .list _ => true
  | _ => false
def isTup : D → Bool
  | .tuple _ => true
  | _ => false
def isDct : D → Bool
  | .dict _ => true
  | _ => false
def isTxt : D → Bool
  | .str _ => true
  | _ => false
def kindL (X : Cx) : KindO X "list" isLst where
  ty := fun x H => ∃ a xs, x = .ref a ∧ SqL X.K H a xs
  ok := by
    intro pins σ H s x v I r ⟨a, xs, e, h⟩
    subst e
    obtain rfl : v = Value.ref a := r
    obtain ⟨its, rv, ⟨o, n, ho, hc, hd, hh⟩, hz⟩ := I.list h
    exact ⟨⟨o, ho, hc⟩, fun b e => by cases e; exact ⟨o, ho, hd⟩⟩
  at_ := by
    intro G H l o d s h r c
    cases r with
    | lst q => exact ⟨l, _, rfl, .inl (.inl h)⟩
    | dK q => cases c
  use := by
    intro G H v d s u c
    cases d <;> first | (cases c; done) | skip
    obtain ⟨a, xs, rfl, h, _⟩ := u.list s
    exact ⟨a, xs, rfl, h⟩
def kindD (X : Cx) : KindO X "dict" isDct where
  ty := fun x H => ∃ a, x = .ref a ∧ IsD H a
  ok := by
    intro pins σ H s x v I r ⟨a, e, h⟩
    subst e
    obtain rfl : v = Value.ref a := r
    obtain ⟨t1, t2, _⟩ := isD_at I h
    exact ⟨t1, t2⟩
  at_ := by
    intro G H l o d s h r c
    cases r with
    | lst q => cases c
    | dK q => exact ⟨l, rfl, .inl ⟨_, .inl h⟩⟩
  use := by
    intro G H v d s u c
    cases d <;> first | (cases c; done) | skip
    obtain ⟨a, kvs, rfl, h, _⟩ := u.dict s
    exact ⟨a, rfl, .inl ⟨kvs, h⟩⟩
def kindS (X : Cx) : KindO X "str" isTxt where
  ty := fun x H => ∃ z, x = .str z
  ok := by
    intro pins σ H s x v I r ⟨z, e⟩
    subst e
    obtain ⟨t, rfl⟩ := r
    exact ⟨rfl, fun b e => by cases e⟩
  at_ := by
    intro G H l o d s h r c
    cases r <;> cases c
  use := by
    intro G H v d s u c
    cases d <;> first | (cases c; done) | skip
    exact ⟨_, u.str⟩
def fMut (i : Nat) (c : D → Bool) (l : Lv) (g : D → List D → Option (D × Bool × D)) : Ev := fun en => if isOwn en i = true then (peek en i).bind fun d0 => if c d0 = true then (l en).bind fun x => match x.2[i]? with
  | some (some (d, f)) => if f = .sh then none else (g d x.1).map fun z => (z.1, z.2.1, x.2.set i (some (z.2.2, f)))
  | _ => none
  else none else none
theorem fe_mut {i : Nat} {T id : String} {c : D → Bool} {name : Str} {l : Lv} {g : D → List D → Option (D × Bool × D)} {r : V → List V → Hp → VK → Prop} (kd : KindO X T c) (o : OpM X.K r g) (pa : PlainAttrs T) (slot : Slot T name id) (hty : typeOf (.builtin id) = pure (.type "method_descriptor")) (hm : MtR X id r) (ho : PE X a (tVar i)) (ha : PA X (e :: es) (FL X.K l))
    (hbase : attributeBase a name X.env (eval a X.env) = eval a X.env := by rfl)
    (hfew : ((backTo cpos (starEach (e :: es) X.env)).all (fun x => !x.1) && (backToKw cpos (keywordEach [] X.env)).all (fun x => x.1.isSome)
      && decide ((e :: es).length + ([] : List Keyword).length + (if ([] : List Keyword).isEmpty then 0 else 1) < 30)) = true := by rfl)
    (hline : (apos.endLine == cpos.line) = true := by rfl) (hs : starEach (e :: es) X.env = (false, eval e X.env) :: starEach es X.env := by rfl) (hplain : (backTo cpos (starEach es X.env)).any (·.1) = false := by rfl) :
    PE X (.Call (.Attribute a name apos) (e :: es) [] cpos) (FE X.K (fMut i c l g)) :=
  pe_imp (pe_mG kd.ok pa slot hty hm ho ha hbase hfew hline hs hplain) fun σ H Q ⟨G, en, d, b, en', S, e1, k⟩ => by
    obtain ⟨h0, e1⟩ := ite_some e1
    obtain ⟨d0, hp, e1⟩ := Option.bind_eq_some_iff.mp e1
    obtain ⟨hc, e1⟩ := ite_some e1
    obtain ⟨⟨ds, en1⟩, p1, e2⟩ := Option.bind_eq_some_iff.mp e1
    obtain ⟨dw, fl, q1, e3⟩ := getSlot e2
    obtain ⟨hf, e4⟩ := ite_none e3
    obtain ⟨⟨z, b', dw'⟩, p5, e6⟩ := Option.map_eq_some_iff.mp e4
    cases e6
    obtain ⟨d1, f0, h1, h2⟩ := isOwn_of h0
    obtain ⟨f1, h3⟩ := peek_some hp
    rw [h1] at h3
    cases h3
    obtain ⟨a, o0, q2, _, q3, q4⟩ := S.own i _ f0 h1 h2
    refine ⟨_, q2, kd.at_ S.sub q3 q4 hc, G, en, ds, en1, S, p1, fun vs G1 H1 T r => ?_⟩
    obtain ⟨a', o1, s1, s2, s3, s4⟩ := T.sr.own i dw fl q1 hf
    rw [q2] at s1
    cases s1
    refine o a o1 dw vs ds z b' dw' G1 H1 Q T.sr.sub s2 s3 s4 r p5 fun v G' H' o' E sub g h ro R => ?_
    have W := SR.write T.sr q1 hf q2 E sub g h ro
    refine k v G' H' (T.trans W) ?_
    cases b' with
    | false => exact R
    | true =>
      obtain ⟨c, u, e, w1, w2, w3, w4, w5⟩ := R
      have hn : H1 c = none := w1.resolve_right w2
      refine ⟨c, u, e, .inl (T.ext.t c hn), fun q => ?_, w3, w4, w5⟩
      obtain ⟨y, e7, _⟩ := T.sr.there (W.own c q)
      rw [hn] at e7
      cases e7
theorem fe_mut0 {i : Nat} {T id : String} {c : D → Bool} {name : Str} {g : D → List D → Option (D × Bool × D)} {r : V → List V → Hp → VK → Prop} (kd : KindO X T c) (o : OpM X.K r g) (pa : PlainAttrs T) (slot : Slot T name id) (hty : typeOf (.builtin id) = pure (.type "method_descriptor")) (hm : MtR X id r) (ho : PE X a (tVar i))
    (hbase : attributeBase a name X.env (eval a X.env) = eval a X.env := by rfl) (hline : (apos.endLine == cpos.line) = true := by rfl) :
    PE X (.Call (.Attribute a name apos) [] [] cpos) (FE X.K (fMut i c lNil g)) :=
  pe_imp (pe_mG0 kd.ok pa slot hty hm ho hbase hline) fun σ H Q ⟨G, en, d, b, en', S, e1, k⟩ => by
    obtain ⟨h0, e1⟩ := ite_some e1
    obtain ⟨d0, hp, e1⟩ := Option.bind_eq_some_iff.mp e1
    obtain ⟨hc, e1⟩ := ite_some e1
    obtain ⟨⟨ds, en1⟩, p1, e2⟩ := Option.bind_eq_some_iff.mp e1
    cases p1
    obtain ⟨dw, fl, q1, e3⟩ := getSlot e2
    obtain ⟨hf, e4⟩ := ite_none e3
    obtain ⟨⟨z, b', dw'⟩, p5, e6⟩ := Option.map_eq_some_iff.mp e4
    cases e6
    obtain ⟨f1, h3⟩ := peek_some hp
    rw [q1] at h3
    cases h3
    obtain ⟨a, o0, q2, s2, q3, q4⟩ := S.own i _ _ q1 hf
    refine ⟨_, q2, kd.at_ S.sub q3 q4 hc, ?_⟩
    refine o a o0 _ [] [] z b' dw' G H Q S.sub s2 q3 q4 .nil p5 fun v G' H' o' E sub g h ro R => ?_
    have W := SR.write S q1 hf q2 E sub g h ro
    refine k v G' H' W ?_
    cases b' with
    | false => exact R
    | true =>
      obtain ⟨c, u, e, w1, w2, w3, w4, w5⟩ := R
      have hn : H c = none := w1.resolve_right w2
      refine ⟨c, u, e, .inl hn, fun q => ?_, w3, w4, w5⟩
      obtain ⟨y, e7, _⟩ := S.there (W.own c q)
      rw [hn] at e7
      cases e7
theorem opM_upd {l : Addr} {o' : HO} {d' z : D} {v : V} {G H : Hp} {o : HO} {Q : VK} (s : Same G H) (g : G l = none) (h : H l = some o) (r : RepO K G o' d') (rz : Rep K G v z)
    (k : ∀ v G' H' o', Ext (fun x => x = l) G H G' H' → Same G' H' → G' l = none → H' l = some o' → RepO K G' o' d' → Res K (fun x => x = l) H (fun x => x = l) G' H' v z false → Q v H') : Q v (upd H l o') :=
  k v G (upd H l o') o' (ext_upd (by rw [h]; exact fun z => by cases z)) (same_upd' s g) g upd_same r rz
def mAppend : D → List D → Option (D × Bool × D)
  | .list ds, [x] => if ds.length < sizeLine then some (.none, false, .list (ds ++ [x])) else none
  | _, _ => none
theorem om_append : OpM K rAppend mAppend := fun l o d xs ds z b d' G H Q s g h r rs e k => by
  unfold mAppend at e
  split at e
  · obtain ⟨hl, e⟩ := ite_some e
    cases e
    cases r with
    | lst q =>
      cases rs with
      | cons r1 r2 =>
        cases r2
        exact ⟨l, _, _, rfl, rfl, h, by rw [q.length]; exact hl, opM_upd s g h (.lst (q.append (.cons r1 .nil))) .non k⟩
  · cases e
def mExtend : D → List D → Option (D × Bool × D)
  | .list ds, [.list es] => if ds.length + es.length ≤ sizeLine then some (.none, false, .list (ds ++ es)) else none
  | _, _ => none
theorem Reps.last {G : Hp} {xs : List V} {ds : List D} {d : D} (r : Reps K G xs ds) (h : ds.getLast? = some d) : ∃ v, xs[xs.length - 1]? = some v ∧ Rep K G v d := by
  rw [List.getLast?_eq_getElem?] at h
  rw [r.length]
  exact r.get' h
theorem Reps.dropLast {G : Hp} {xs : List V} {ds : List D} (r : Reps K G xs ds) : Reps K G xs.dropLast ds.dropLast := by
  rw [List.dropLast_eq_take, List.dropLast_eq_take, r.length]
  exact r.take _
def mPop : D → List D → Option (D × Bool × D)
  | .list ds, [] => ds.getLast?.map fun x => (x, false, .list ds.dropLast)
  | _, _ => none
theorem om_pop : OpM K rPop mPop := fun l o d xs ds z b d' G H Q s g h r rs e k => by
  unfold mPop at e
  split at e
  · obtain ⟨x, e1, e2⟩ := Option.map_eq_some_iff.mp e
    cases e2
    cases r with
    | lst q =>
      cases rs
      obtain ⟨v, w1, w2⟩ := q.last e1
      exact ⟨l, _, v, rfl, rfl, h, w1, opM_upd s g h (.lst q.dropLast) w2 k⟩
  · cases e
def mPopAt : D → List D → Option (D × Bool × D)
  | .list ds, [.int i] => if -(2 ^ 63) ≤ i ∧ i < 2 ^ 63 then (seqIndex? i ds.length).bind fun k => (ds[k]?).map fun x => (x, false, .list (ds.eraseIdx k)) else none
  | _, _ => none
theorem om_popAt : OpM K rPopAt mPopAt := fun l o d xs ds z b d' G H Q s g h r rs e k => by
  unfold mPopAt at e
  split at e
  · obtain ⟨⟨b1, b2⟩, e⟩ := ite_some e
    obtain ⟨j, e1, e2⟩ := Option.bind_eq_some_iff.mp e
    obtain ⟨x, e3, e4⟩ := Option.map_eq_some_iff.mp e2
    cases e4
    cases r with
    | lst q =>
      cases rs with
      | cons r1 r2 =>
        cases r2
        cases r1
        obtain ⟨v, w1, w2⟩ := q.get' e3
        exact ⟨l, _, _, j, v, rfl, rfl, h, b1, b2, by rw [q.length]; exact e1, w1, opM_upd s g h (.lst (q.eraseIdx j)) w2 k⟩
  · cases e
/-! ### a method that reads -/
def OpMR (K : PySem.W.Frag) (r : V → List V → Hp → VK → Prop) (g : D → List D → Option (D × Bool)) : Prop :=
  ∀ (x : V) (d : D) (xs : List V) (ds : List D) (z : D) (b : Bool) (G H : Hp) (Q : VK), Same G H → Use K G H x d → Uses K G H xs ds → g d ds = some (z, b) → (∀ v G' H', New G H G' H' → Fresh K H G' H' v z b → Q v H') → r x xs H Q
def fMeth (p : Ov) (c : D → Bool) (l : Av) (g : D → List D → Option (D × Bool)) : Ev := fun en => (p en).bind fun x => (x.1.late x.2).bind fun d0 => if c d0 = true then (l x.2).bind fun y => (x.1.late y.2).bind fun d => (lates y.2 y.1).bind fun ds => (g d ds).map fun z => (z.1, z.2, y.2) else none
theorem fe_meth {T id : String} {c : D → Bool} {name : Str} {p : Ov} {l : Av} {g : D → List D → Option (D × Bool)} {r : V → List V → Hp → VK → Prop} (kd : KindO X T c) (o : OpMR X.K r g) (pa : PlainAttrs T) (slot : Slot T name id) (hty : typeOf (.builtin id) = pure (.type "method_descriptor")) (hm : MtR X id r) (ho : PE X a (FO X.K p)) (ha : PA X (e :: es) (FA X.K l))
    (hbase : attributeBase a name X.env (eval a X.env) = eval a X.env := by rfl)
    (hfew : ((backTo cpos (starEach (e :: es) X.env)).all (fun x => !x.1) && (backToKw cpos (keywordEach [] X.env)).all (fun x => x.1.isSome)
      && decide ((e :: es).length + ([] : List Keyword).length + (if ([] : List Keyword).isEmpty then 0 else 1) < 30)) = true := by rfl)
    (hline : (apos.endLine == cpos.line) = true := by rfl) (hs : starEach (e :: es) X.env = (false, eval e X.env) :: starEach es X.env := by rfl) (hplain : (backTo cpos (starEach es X.env)).any (·.1) = false := by rfl) :
    PE X (.Call (.Attribute a name apos) (e :: es) [] cpos) (FE X.K (fMeth p c l g)) :=
  pe_imp (pe_mG kd.ok pa slot hty hm ho ha hbase hfew hline hs hplain) fun σ H Q ⟨G, en, d, b, en', S, e1, k⟩ => by
    obtain ⟨⟨x, en1⟩, p1, e1⟩ := Option.bind_eq_some_iff.mp e1
    obtain ⟨d0, hp, e1⟩ := Option.bind_eq_some_iff.mp e1
    obtain ⟨hc, e1⟩ := ite_some e1
    obtain ⟨⟨y, en2⟩, p2, e1⟩ := Option.bind_eq_some_iff.mp e1
    obtain ⟨d2, p3, e1⟩ := Option.bind_eq_some_iff.mp e1
    obtain ⟨ds, p4, e1⟩ := Option.bind_eq_some_iff.mp e1
    obtain ⟨⟨z', b'⟩, p5, e6⟩ := Option.map_eq_some_iff.mp e1
    cases e6
    refine ⟨G, en, x, en1, S, p1, fun v G1 H1 T1 r1 => ⟨kd.use T1.sr.sub (r1.use T1.sr hp) hc, G1, en1, y, en2, T1.sr, p2, fun vs G2 H2 T2 r2 => ?_⟩⟩
    exact o v d2 vs ds _ _ G2 H2 Q T2.sr.sub ((r1.step T2).use T2.sr p3) (r2.uses T2.sr p4) p5 fun v G' H' N F => k v G' H' ((T1.trans T2).trans (N.step T2.sr)) (F.res' (T1.trans T2))
/-! ### stores into cells -/
def rSetA : V → V → V → Hp → (Hp → Prop) → Prop := fun o i v H Q => rSetL o i v H Q ∨ ∃ a H', o = .ref a ∧ DPut H a i v H' ∧ Q H'
theorem set_A (hu : X.A.units + 1 < cLine) : PSet X rSetA := by
  intro pins s σ H o i v ov iv u Q I ro ri rv h
  rcases h with h | ⟨a, H', e, g, q⟩
  · exact set_list pins s σ H o i v ov iv u Q I ro ri rv h
  · subst e
    obtain rfl : ov = Value.ref a := ro
    exact d_setItem hu I g ri rv fun s' I' => ⟨H', I', q⟩
def dSetA : D → D → D → Option D
  | .list ds, .int k, d => (ixN ds.length k).map fun j => .list (ds.set j d)
  | .dict es, k, d => (keyOf k).bind fun k => if es.length < sizeLine then some (.dict (dictPut es k d)) else none
  | _, _, _ => none
theorem setA_of {G H : Hp} {l : Addr} {o : HO} {d k x d' : D} {vk v : V} {Q : Hp → Prop} (s : Same G H) (g : G l = none) (h : H l = some o) (r : RepO K G o d) (rk : Rep K G vk k) (rx : Rep K G v x) (e : dSetA d k x = some d') (q : ∀ o', RepO K G o' d' → Q (upd H l o')) : rSetA (.ref l) vk v H Q := by
  unfold dSetA at e
  split at e
  · obtain ⟨j, e1, e2⟩ := Option.map_eq_some_iff.mp e
    cases e2
    cases r with
    | lst r =>
      cases rk
      exact .inl ⟨l, _, _, j, rfl, rfl, h, by rw [r.length]; exact e1, q _ (.lst (r.set rx j))⟩
  · obtain ⟨k', e1, e2⟩ := Option.bind_eq_some_iff.mp e
    obtain ⟨hl, e3⟩ := ite_some e2
    cases e3
    cases r with
    | dK r =>
      have ek := keyV (H := H) (.inl rk) e1
      subst ek
      exact .inr ⟨l, _, rfl, DPut.k h (by rw [r.length]; exact hl), q _ (.dK (r.put k' rx))⟩
  · cases e
def gSubD (i : Nat) (f : Vv) : Gv := fun d en => if isOwn en i = true then (f en).bind fun x => match x.2[i]? with
  | some (some (dw, fl)) => if fl = .sh then none else (dSetA dw x.1 d).map fun z => x.2.set i (some (z, fl))
  | _ => none
  else none
theorem fg_sub {i : Nat} {f : Vv} (hu : X.A.units + 1 < cLine) (ho : PE X o (tVar i)) (hi : PE X e (FV X.K f)) (ha : ∀ v, assign (.Subscript o e pos) X.env v = (do
      let ov ← holding [v] (eval o X.env)
      let iv ← holding [v, ov] (eval e X.env)
      standAt pos
      holding [v, ov, iv] (setItem ov iv v)
      release [v, ov, iv] []) := by intro _; rfl) : PG X (.Subscript o e pos) (FG Rep X.K [] (gSubD i f)) :=
  pg_imp (pg_sub ho hi (set_A hu) ha) fun v σ H Q ⟨G, en, d, en', S, r, e1, k⟩ => by
    obtain ⟨h0, e1⟩ := ite_some e1
    obtain ⟨⟨x, en1⟩, p1, e2⟩ := Option.bind_eq_some_iff.mp e1
    obtain ⟨dw, fl, q1, e3⟩ := getSlot e2
    obtain ⟨hf, e4⟩ := ite_none e3
    obtain ⟨dw', p5, e6⟩ := Option.map_eq_some_iff.mp e4
    subst e6
    obtain ⟨d1, f0, h1, h2⟩ := isOwn_of h0
    obtain ⟨a, o0, q2, _, q3, q4⟩ := S.own i _ f0 h1 h2
    refine ⟨_, q2, G, en, x, en1, S, p1, fun vk G1 H1 T rk => ?_⟩
    obtain ⟨a', o1, s1, s2, s3, s4⟩ := T.sr.own i dw fl q1 hf
    rw [q2] at s1
    cases s1
    refine setA_of T.sr.sub s2 s3 s4 rk (r.mono T.ext.g) p5 fun o' ro => ?_
    have W := SR.write T.sr q1 hf q2 (ext_upd (u := o') (by rw [s3]; exact fun z => by cases z)) (same_upd' T.sr.sub s2) s2 upd_same ro
    exact k σ G1 _ (step_g (T.trans W)) ⟨rfl, fun _ _ => rfl⟩
/-- d[k] += e, of ints -/
def dGetA : D → D → Option D
  | .dict es, k => (keyOf k).bind fun k => dictGet es k
  | _, _ => none
def sAugS (i : Nat) (f : Vv) (g : Vv) (h : D → D → Option D) : Sv := fun en => if isOwn en i = true then (f en).bind fun x => (peek x.2 i).bind fun dw => (dGetA dw x.1).bind fun d0 => (g x.2).bind fun y => match y.2[i]? with
  | some (some (dw, fl)) => if fl = .sh then none else (h d0 y.1).bind fun z => (dSetA dw x.1 z).map fun z => (.nx, y.2.set i (some (z, fl)))
  | _ => none
  else none
def dGetR : V → V → Hp → VK → Prop := fun x y H Q => ∃ a v, x = .ref a ∧ DGet H a y (some v) ∧ Q v H
theorem get_D (hu : X.A.units + 1 < cLine) : PGet X dGetR := by
  intro pins s σ H o i ov iv Q I ro ri ⟨a, v, e, g, q⟩
  subst e
  obtain rfl : ov = Value.ref a := ro
  exact d_getItem hu I g ri fun w' s' I' r' => ⟨v, H, I', r', q⟩
def Ip2 (K : PySem.W.Frag) (r : TIp) (g : D → D → Option D) : Prop := ∀ x y d e z G H Q, Rep K G x d → Rep K G y e → g d e = some z → (∀ v, (∀ G, Rep K G v z) → Q v H) → r x y H Q
def zAdd : D → D → Option D
  | .int i, .int j => some (.int (i + j))
  | _, _ => none
def zSub : D → D → Option D
  | .int i, .int j => some (.int (i - j))
  | _, _ => none
theorem i2_add : Ip2 K (ipI fun i j => i + j) zAdd := fun x y d e z G H Q rx ry h k => by
  unfold zAdd at h
  split at h
  · cases h
    cases rx
    cases ry
    exact ⟨_, _, rfl, rfl, k _ fun _ => .int _⟩
  · cases h
theorem i2_sub : Ip2 K (ipI fun i j => i - j) zSub := fun x y d e z G H Q rx ry h k => by
  unfold zSub at h
  split at h
  · cases h
    cases rx
    cases ry
    exact ⟨_, _, rfl, rfl, k _ fun _ => .int _⟩
  · cases h
theorem fs_augS {i : Nat} {f g : Vv} {op : Operator} {ti : TIp} {h : D → D → Option D} {tpos : Pos} (hu : X.A.units + 1 < cLine) (ho : PE X o (tVar i)) (hi : PE X a (FV X.K f)) (he : PE X e (FV X.K g)) (hop : PIp X op ti) (i2 : Ip2 X.K ti h)
    (ha : ∀ ov iv new, augStore a ov iv new = (do holding [new, ov, iv] (setItem ov iv new); release [new, ov, iv] []; pure .next) := by intros; rfl) : PS X (.AugAssign (.Subscript o a tpos) op e pos) (FS X.K (sAugS i f g h)) :=
  ps_imp (ps_augS ho hi (get_D hu) he hop (set_A hu) ha) fun D σ H ⟨G, en, out, en', S, e1, k⟩ => by
    obtain ⟨h0, e1⟩ := ite_some e1
    obtain ⟨⟨x, en1⟩, p1, e1⟩ := Option.bind_eq_some_iff.mp e1
    obtain ⟨dw, p2, e1⟩ := Option.bind_eq_some_iff.mp e1
    obtain ⟨d0, p3, e1⟩ := Option.bind_eq_some_iff.mp e1
    obtain ⟨⟨y, en2⟩, p4, e1⟩ := Option.bind_eq_some_iff.mp e1
    obtain ⟨dw1, fl, q1, e3⟩ := getSlot e1
    obtain ⟨hf, e4⟩ := ite_none e3
    obtain ⟨z, p5, e5⟩ := Option.bind_eq_some_iff.mp e4
    obtain ⟨dw', p6, e6⟩ := Option.map_eq_some_iff.mp e5
    cases e6
    obtain ⟨d1, f0, h1, h2⟩ := isOwn_of h0
    obtain ⟨a, o0, q2, _, q3, q4⟩ := S.own i _ f0 h1 h2
    refine ⟨_, q2, G, en, x, en1, S, p1, fun vk G1 H1 T rk => ?_⟩
    have U : Use X.K G1 H1 (.ref a) dw := HoldR.use (h := .slot i) T.sr q2 p2
    unfold dGetA at p3
    split at p3
    · obtain ⟨kk, w1, w2⟩ := Option.bind_eq_some_iff.mp p3
      obtain ⟨a', kvs, e7, u1, u2⟩ := U.dict T.sr.sub
      cases e7
      have ek := keyV (H := H1) (.inl rk) w1
      subst ek
      obtain ⟨v0, w3, w4⟩ : ∃ v0, valV kvs kk = some v0 ∧ Rep X.K G1 v0 d0 := by
        rcases u2.get kk with ⟨_, w3⟩ | ⟨v0, d3, w3, w5, w4⟩
        · rw [w2] at w3
          cases w3
        · rw [w2] at w5
          cases w5
          exact ⟨v0, w3, w4⟩
      refine ⟨a, v0, rfl, .inl ⟨kvs, kk, u1, rfl, w3.symm⟩, G1, en1, y, en2, T.sr, p4, fun vy G2 H2 T2 ry => ?_⟩
      obtain ⟨a', o1, s1, s2, s3, s4⟩ := T2.sr.own i dw1 fl q1 hf
      rw [q2] at s1
      cases s1
      refine i2 _ _ _ _ _ G2 H2 _ (w4.mono T2.ext.g) ry p5 fun vz rz => ?_
      refine setA_of T2.sr.sub s2 s3 s4 (rk.mono T2.ext.g) (rz _) p6 fun o' ro => ?_
      have W := SR.write T2.sr q1 hf q2 (ext_upd (u := o') (by rw [s3]; exact fun z => by cases z)) (same_upd' T2.sr.sub s2) s2 upd_same ro
      exact k G2 _ σ ((T.trans T2).trans W).s
    · cases p3
/-- x += e, of ints -/
def sAugN (i : Nat) (f : Vv) (h : D → D → Option D) : Sv := fun en => match en[i]? with
  | some (some (d0, .sh)) => (f en).bind fun x => (h d0 x.1).bind fun z => if free1 x.2 i = true then some (.nx, x.2.set i (some (z, .sh))) else none
  | _ => none
theorem fs_aug {i : Nat} {x : Str} {f : Vv} {op : Operator} {ti : TIp} {h : D → D → Option D} {pos' : Pos} (hN : X.N.Nodup) (he : PE X e (FV X.K f)) (hop : PIp X op ti) (i2 : Ip2 X.K ti h) (hi : X.N[i]? = some x := by rfl) (hx : Loc X.env.scope x := by first | exact .inl rfl | exact .inr rfl)
    (hf : X.fn x = true ∨ X.env.scope.names.lookup x = some .local := by first | exact .inl rfl | exact .inr rfl | assumption) : PS X (.AugAssign (.Name x pos') op e pos) (FS X.K (sAugN i f h)) :=
  ps_imp (ps_aug hN hi hx he hop hf) fun D σ H ⟨G, en, out, en', S, e1, k⟩ => by
    unfold sAugN at e1
    split at e1
    · rename_i d0 q0
      obtain ⟨⟨y, en1⟩, p1, e1⟩ := Option.bind_eq_some_iff.mp e1
      obtain ⟨z, p2, e1⟩ := Option.bind_eq_some_iff.mp e1
      obtain ⟨hl, e1⟩ := ite_some e1
      cases e1
      obtain ⟨v, s1, s2⟩ := S.shd i d0 q0
      refine ⟨v, s1, G, en, y, en1, S, p1, fun vy G1 H1 T ry => ?_⟩
      refine i2 _ _ _ _ _ G1 H1 _ (s2.mono T.ext.g) ry p2 fun vz rz => ?_
      exact k G1 H1 _ (T.s.store (b := false) hl (rz _))
    · cases e1
/-! ### several names at once -/
abbrev Mv := En → Option (List (D × Bool) × En)
def frs : List V → List (D × Bool) → Addr → Prop
  | v :: vs, (_, b) :: ds, x => (b = true ∧ v = .ref x) ∨ frs vs ds x
  | _, _, _ => False
inductive ResL (K : PySem.W.Frag) (O : Addr → Prop) (H : Hp) (O' : Addr → Prop) (G' H' : Hp) : List V → List (D × Bool) → Prop
  | nil : ResL K O H O' G' H' [] []
  | cons {v : V} {d : D} {b : Bool} {vs : List V} {ds : List (D × Bool)} : Res K O H (fun x => O' x ∨ frs vs ds x) G' H' v d b → ResL K O H O' G' H' vs ds → ResL K O H O' G' H' (v :: vs) ((d, b) :: ds)
def FM (K : PySem.W.Frag) (f : Mv) : TA := fun σ H Q => ∃ G en ds en', SR K G H en σ ∧ f en = some (ds, en') ∧ ∀ vs G' H', Step K en en' σ G H G' H' → ResL K (OwnA en σ) H (OwnA en' σ) G' H' vs ds → Q vs H'
def mNil : Mv := fun en => some ([], en)
def mCons (p : Ev) (r : Mv) : Mv := fun en => (p en).bind fun x => (r x.2.2).map fun y => ((x.1, x.2.1) :: y.1, y.2)
theorem fm_nil : PA X [] (FM X.K mNil) := pa_imp pa_nil fun σ H Q ⟨G, en, ds, en', S, e1, k⟩ => by
  cases e1
  exact k [] G H (Step.refl S) .nil
theorem res_step {G H G1 H1 G2 H2 : Hp} {en en1 en2 : En} {σ : St} {v : V} {d : D} {b : Bool} {P : Addr → Prop} (T : Step K en en1 σ G H G1 H1) (U : Step K en1 en2 σ G1 H1 G2 H2) (r : Res K (OwnA en σ) H (OwnA en1 σ) G1 H1 v d b) (hP : b = true → ∀ a, v = .ref a → ¬ P a) : Res K (OwnA en σ) H (fun x => OwnA en2 σ x ∨ P x) G2 H2 v d b := by
  cases b with
  | false => exact Rep.mono U.ext.g r
  | true =>
    obtain ⟨a, o, e, h1, h2, h3, h4, h5⟩ := r
    exact ⟨a, o, e, h1, fun z => z.elim (fun z => h2 (U.own a z)) (hP rfl a e), U.ext.h a o h3 h2, U.ext.n a o h3 h2 h4, h5.mono U.ext.g⟩
theorem frs_new {O : Addr → Prop} {H : Hp} {O' : Addr → Prop} {G' H' : Hp} : ∀ {vs : List V} {ds : List (D × Bool)} {x : Addr}, ResL K O H O' G' H' vs ds → frs vs ds x → (H x = none ∨ O x)
  | _, _, _, .nil, h => h.elim
  | _, _, x, .cons r t, h => by
    rcases h with ⟨hb, e⟩ | h
    · subst hb
      obtain ⟨a, o, e', h1, _⟩ := r
      rw [e] at e'
      cases e'
      exact h1
    · exact frs_new t h
theorem resL_from {G H G1 H1 : Hp} {en en1 en2 : En} {σ : St} {G2 H2 : Hp} (T : Step K en en1 σ G H G1 H1) : ∀ {vs : List V} {ds : List (D × Bool)}, ResL K (OwnA en1 σ) H1 (OwnA en2 σ) G2 H2 vs ds → ResL K (OwnA en σ) H (OwnA en2 σ) G2 H2 vs ds
  | _, _, .nil => .nil
  | _, _, .cons (b := b) r t => by
    refine .cons ?_ (resL_from T t)
    cases b with
    | false => exact r
    | true =>
      obtain ⟨a, o, e, q1, q2, q3, q4, q5⟩ := r
      refine ⟨a, o, e, ?_, q2, q3, q4, q5⟩
      rcases q1 with q1 | q1
      · exact .inl (T.ext.t a q1)
      · exact .inr (T.own a q1)
theorem fm_cons {f : Ev} {r : Mv} (h : PE X e (FE X.K f)) (hr : PA X es (FM X.K r)) (hs : starEach (e :: es) X.env = (false, eval e X.env) :: starEach es X.env := by rfl) : PA X (e :: es) (FM X.K (mCons f r)) :=
  pa_imp (pa_cons h hr hs) fun σ H Q ⟨G, en, ds, en', S, e1, k⟩ => by
    obtain ⟨⟨d, b, en1⟩, p1, e2⟩ := Option.bind_eq_some_iff.mp e1
    obtain ⟨⟨ds', en2⟩, p2, e3⟩ := Option.map_eq_some_iff.mp e2
    cases e3
    refine ⟨G, en, d, b, en1, S, p1, fun v G1 H1 T1 r1 => ⟨G1, en1, ds', en2, T1.sr, p2, fun vs G2 H2 T2 r2 => ?_⟩⟩
    refine k _ G2 H2 (T1.trans T2) (.cons (res_step T1 T2 r1 fun hb a ev hf => ?_) (resL_from T1 r2))
    subst hb
    obtain ⟨a', o, e', h1, h2, h3, _⟩ := r1
    rw [ev] at e'
    cases e'
    rcases frs_new r2 hf with z | z
    · rw [z] at h3
      cases h3
    · exact h2 z
def putAll : List Nat → List (D × Bool) → En → Option En
  | [], [], en => some en
  | i :: is, (d, b) :: ds, en => if free1 en i = true then putAll is ds (en.set i (some (d, flag b))) else none
  | _, _, _ => none
def stAll : List Nat → List V → St → St
  | i :: is, v :: vs, σ => stAll is vs (σ.set i (some v))
  | _, _, σ => σ
theorem resL_after {O : Addr → Prop} {H : Hp} {O1 O2 : Addr → Prop} {G' H' : Hp} : ∀ {vs : List V} {ds : List (D × Bool)}, ResL K O H O1 G' H' vs ds → (∀ x, frs vs ds x → O2 x → O1 x) → ResL K O H O2 G' H' vs ds
  | _, _, .nil, _ => .nil
  | _, _, .cons (b := b) r t, k => by
    refine .cons ?_ (resL_after t fun x hx => k x (.inr hx))
    cases b with
    | false => exact r
    | true =>
      obtain ⟨a, o, e, q1, q2, q3, q4, q5⟩ := r
      exact ⟨a, o, e, q1, fun z => q2 (z.elim (fun z => .inl (k a (.inl ⟨rfl, e⟩) z)) .inr), q3, q4, q5⟩
theorem put_all {G0 H0 : Hp} {en0 : En} {σ0 : St} {G H : Hp} : ∀ {is : List Nat} {vs : List V} {ds : List (D × Bool)} {en en' : En} {σ : St}, StepS K en0 σ0 G0 H0 en σ G H → ResL K (OwnA en0 σ0) H0 (OwnA en σ) G H vs ds → putAll is ds en = some en' → StepS K en0 σ0 G0 H0 en' (stAll is vs σ) G H
  | [], _, _, en, en', σ, T, .nil, e => by cases e; exact T
  | [], _, _, en, en', σ, T, .cons _ _, e => by cases e
  | _ :: _, _, _, en, en', σ, T, .nil, e => by cases e
  | i :: is, _, _, en, en', σ, T, .cons (v := v) (d := d) (b := b) (vs := vs) (ds := ds) r t, e => by
    obtain ⟨hl, e2⟩ := ite_some e
    have r0 : Res K (OwnA en0 σ0) H0 (OwnA en σ) G H v d b := by
      cases b with
      | false => exact r
      | true =>
        obtain ⟨a, o, e, q1, q2, q3, q4, q5⟩ := r
        exact ⟨a, o, e, q1, fun z => q2 (.inl z), q3, q4, q5⟩
    refine put_all (is := is) (vs := vs) (ds := ds) (σ := σ.set i (some v)) (StepS.store T hl r0) (resL_after t fun x hx hz => ?_) e2
    cases b with
    | false =>
      obtain ⟨k, d2, g, q1, n, q2⟩ := hz
      rcases set_at q1 with ⟨_, w, _⟩ | ⟨hk, w⟩
      · cases w
        exact absurd rfl n
      · rw [List.getElem?_set_ne (Ne.symm hk)] at q2
        exact ⟨k, d2, g, w, n, q2⟩
    | true =>
      rcases own_store T.sr hz with z | z
      · obtain ⟨a, o, e, q1, q2, _⟩ := r
        rw [e] at z
        cases z
        exact (q2 (.inr hx)).elim
      · exact z
def sParN (is : List Nat) (l : Mv) : Sv := fun en => (l en).bind fun x => (putAll is x.1 x.2).map fun e' => (.nx, e')
theorem resL_len {O : Addr → Prop} {H : Hp} {O1 : Addr → Prop} {G' H' : Hp} : ∀ {vs : List V} {ds : List (D × Bool)}, ResL K O H O1 G' H' vs ds → vs.length = ds.length
  | _, _, .nil => rfl
  | _, _, .cons _ t => by rw [List.length_cons, List.length_cons, resL_len t]
theorem putAll_len : ∀ {is : List Nat} {ds : List (D × Bool)} {en en' : En}, putAll is ds en = some en' → is.length = ds.length
  | [], [], _, _, _ => rfl
  | [], _ :: _, _, _, e => by cases e
  | _ :: _, [], _, _, e => by cases e
  | i :: is, (d, b) :: ds, en, en', e => by
    obtain ⟨hl, e2⟩ := ite_some e
    rw [List.length_cons, List.length_cons, putAll_len e2]
theorem fs_par2 {i j : Nat} {x y : Str} {a b : Expr} {l : Mv} {px py pt : Pos} {kt k2 pt2} (hc : X.calm = true) (hN : X.N.Nodup) (ha : PA X [a, b] (FM X.K l)) (hij : i ≠ j := by decide) (hi : X.N[i]? = some x := by rfl) (hj : X.N[j]? = some y := by rfl)
    (hx : X.env.scope.names.lookup x = some .local := by rfl) (hy : X.env.scope.names.lookup y = some .local := by rfl)
    (hw : swappedStores [.Tuple [.Name x px, .Name y py] kt pt] (.Tuple [a, b] k2 pt2) X.env = pure (some [x, y]) := by rfl)
    (hs : swapsWithSole [.Tuple [.Name x px, .Name y py] kt pt] (.Tuple [a, b] k2 pt2) pos.line X.env = pure false := by rfl) :
    PS X (.Assign [.Tuple [.Name x px, .Name y py] kt pt] (.Tuple [a, b] k2 pt2) pos) (FS X.K (sParN [i, j] l)) :=
  ps_imp (ps_par hc hN hi hj hij hx hy ha hw hs) fun D σ H ⟨G, en, out, en', S, e1, k⟩ => by
    obtain ⟨⟨ds, en1⟩, p1, e2⟩ := Option.bind_eq_some_iff.mp e1
    obtain ⟨en2, p2, e3⟩ := Option.map_eq_some_iff.mp e2
    cases e3
    refine ⟨G, en, ds, en1, S, p1, fun vs G1 H1 T r => ?_⟩
    have hl := (resL_len r).trans (putAll_len p2).symm
    match vs, hl, r with
    | [v, w], _, r => exact ⟨v, w, rfl, k G1 H1 _ (put_all T.s r p2)⟩
theorem fs_par3 {i j m : Nat} {x y z : Str} {a b c : Expr} {l : Mv} {px py pz pt : Pos} {kt k2 pt2} (hc : X.calm = true) (hN : X.N.Nodup) (ha : PA X [a, b, c] (FM X.K l)) (hij : i ≠ j := by decide) (him : i ≠ m := by decide) (hjm : j ≠ m := by decide) (hi : X.N[i]? = some x := by rfl) (hj : X.N[j]? = some y := by rfl) (hm : X.N[m]? = some z := by rfl)
    (hx : X.env.scope.names.lookup x = some .local := by rfl) (hy : X.env.scope.names.lookup y = some .local := by rfl) (hz : X.env.scope.names.lookup z = some .local := by rfl)
    (hw : swappedStores [.Tuple [.Name x px, .Name y py, .Name z pz] kt pt] (.Tuple [a, b, c] k2 pt2) X.env = pure (some [x, y, z]) := by rfl)
    (hs : swapsWithSole [.Tuple [.Name x px, .Name y py, .Name z pz] kt pt] (.Tuple [a, b, c] k2 pt2) pos.line X.env = pure false := by rfl) :
    PS X (.Assign [.Tuple [.Name x px, .Name y py, .Name z pz] kt pt] (.Tuple [a, b, c] k2 pt2) pos) (FS X.K (sParN [i, j, m] l)) :=
  ps_imp (ps_par3 hc hN hi hj hm hij him hjm hx hy hz ha hw hs) fun D σ H ⟨G, en, out, en', S, e1, k⟩ => by
    obtain ⟨⟨ds, en1⟩, p1, e2⟩ := Option.bind_eq_some_iff.mp e1
    obtain ⟨en2, p2, e3⟩ := Option.map_eq_some_iff.mp e2
    cases e3
    refine ⟨G, en, ds, en1, S, p1, fun vs G1 H1 T r => ?_⟩
    have hl := (resL_len r).trans (putAll_len p2).symm
    match vs, hl, r with
    | [v, w, u], _, r => exact ⟨v, w, u, rfl, k G1 H1 _ (put_all T.s r p2)⟩
/-! ### global constants -/
theorem fv_glob {x : Str} {v : V} {u : Value} {d : D} (hm : X.mg x = some u) (r : RelV v u) (h : ∀ G, Rep X.K G v d) (hg : Gl X x := by rfl) (hd : (x == ("__debug__" : Str)) = false := by decide) : PE X (.Name x pos) (FV X.K (fC d)) := fv_c (pe_glob hg hm r hd) h
/-! ### dict displays -/
def FPs (K : PySem.W.Frag) (f : Lv) (t : St → Hp → (List (V × V) → Hp → Prop) → Prop) : Prop := ∀ σ H Q, (∃ G en ds en', SR K G H en σ ∧ f en = some (ds, en') ∧ ∀ ps G' H', Step K en en' σ G H G' H' → Reps K G' (ps.flatMap fun p => [p.1, p.2]) ds → Q ps H') → t σ H Q
theorem fps_nil : FPs K lNil (tPairs []) := fun σ H Q ⟨G, en, ds, en', S, e1, k⟩ => by
  cases e1
  exact k [] G H (Step.refl S) .nil
theorem fps_cons {f g : Vv} {r : Lv} {trs : List (TE × TE)} (h : FPs K r (tPairs trs)) : FPs K (lCons f (lCons g r)) (tPairs ((FV K f, FV K g) :: trs)) := fun σ H Q ⟨G, en, ds, en', S, e1, k⟩ => by
  unfold lCons at e1
  split at e1
  · rename_i h1 en1 e2
    split at e1
    · rename_i h2 en2 e3
      cases e1
      split at e3
      · rename_i h3 en3 e4
        split at e3
        · rename_i h4 en4 e5
          cases e3
          refine ⟨G, en, h1, en1, S, e2, fun v G1 H1 T1 r1 => ⟨G1, en1, h3, en3, T1.sr, e4, fun w G2 H2 T2 r2 => ?_⟩⟩
          refine h σ H2 _ ⟨G2, en3, h4, _, T2.sr, e5, fun ps G3 H3 T3 r3 => ?_⟩
          exact k _ G3 H3 ((T1.trans T2).trans T3) (.cons (r1.mono (fun b o e => T3.ext.g _ _ (T2.ext.g b o e))) (.cons (r2.mono T3.ext.g) r3))
        · cases e3
      · cases e3
    · cases e1
  · cases e1
def pairsFlat : List D → Option (List (Key × D))
  | [] => some []
  | k :: v :: r => (keyOf k).bind fun k => (pairsFlat r).map fun t => (k, v) :: t
  | _ => none
theorem pairs_flat {G : Hp} : ∀ {ps : List (V × V)} {ds : List D} {ks : List (Key × D)}, Reps K G (ps.flatMap fun p => [p.1, p.2]) ds → pairsFlat ds = some ks → ∃ kvs : List (Key × V), ps = kvs.map (fun kv => (kV kv.1, kv.2)) ∧ RepPs K G kvs ks
  | [], _, ks, .nil, e => by cases e; exact ⟨[], rfl, .nil⟩
  | (x, y) :: ps, _, ks, .cons (d := d) r1 (.cons (d := d2) r2 r3), e => by
    obtain ⟨k, h1, h2⟩ := Option.bind_eq_some_iff.mp e
    obtain ⟨t, h3, h4⟩ := Option.map_eq_some_iff.mp h2
    subst h4
    have ek : x = kV k := keyV (H := G) (.inl r1) h1
    obtain ⟨kvs, w1, w2⟩ := pairs_flat r3 h3
    exact ⟨(k, y) :: kvs, by rw [w1, ek]; rfl, .cons r2 w2⟩
def fDisp (l : Lv) : Ev := fun en => (l en).bind fun x => (pairsFlat x.1).bind fun ks => if ks.length ≤ 15 then some (.dict (mergeD [] ks), true, x.2) else none
theorem RepPs.len {G : Hp} : ∀ {kvs : List (Key × V)} {ps : List (Key × D)}, RepPs K G kvs ps → kvs.length = ps.length
  | _, _, .nil => rfl
  | _, _, .cons _ t => by rw [List.length_cons, List.length_cons, t.len]
theorem fe_disp {keys : List (Option Expr)} {values : List Expr} {trs : List (TE × TE)} {l : Lv} (h : PPs X pos keys values trs) (hf : FPs X.K l (tPairs trs)) (hall : keys.all (·.isSome) = true := by rfl) (hl : keys.length = values.length := by rfl) (h0 : keys ≠ [] := by exact fun z => by cases z)
    (h15 : keys.length ≤ 15 := by decide) : PE X (.Dict keys values pos) (FE X.K (fDisp l)) :=
  pe_imp (pe_disp h hall hl h0 h15) fun σ H Q ⟨G, en, d, b, en', S, e1, k⟩ => by
    obtain ⟨⟨ds, en1⟩, p1, e2⟩ := Option.bind_eq_some_iff.mp e1
    obtain ⟨ks, p2, e3⟩ := Option.bind_eq_some_iff.mp e2
    obtain ⟨hk, e4⟩ := ite_some e3
    cases e4
    intro p hp
    have N0 := (New.own (o := .dK []) S.sub hp)
    have T0 := N0.step S
    have np : ∀ {en : En} {G0 H0 : Hp}, Step X.K en en1 σ G0 H0 G H0 → True := fun _ => trivial
    refine hf σ _ _ ⟨G, en, ds, en1, T0.sr, p1, fun ps G1 H1 T r => ?_⟩
    obtain ⟨kvs, w1, w2⟩ := pairs_flat r p2
    have no : ¬ OwnA en σ p := fun z => by
      obtain ⟨o, e, _⟩ := S.there z
      rw [hp] at e
      cases e
    have gp : G p = none := by
      cases e : G p with
      | none => rfl
      | some u =>
        have := S.sub p u e
        rw [hp] at this
        cases this
    have h1 : H1 p = some (.dK []) := T.ext.h p _ upd_same no
    have g1 : G1 p = none := T.ext.n p _ upd_same no gp
    have no1 : ¬ OwnA en1 σ p := fun z => no (T.own p z)
    refine ⟨h1, kvs, w1, by rw [w2.len]; exact hk, ?_⟩
    have ro : RepO X.K G1 (.dK (mergeK [] kvs)) (.dict (mergeD [] ks)) := .dK (w2.merge .nil)
    have T2 := T0.trans T
    have E : Ext (OwnA en σ) G H G1 (upd H1 p (.dK (mergeK [] kvs))) := ⟨T2.ext.g, fun b o e n => by
        have hb : b ≠ p := fun z => by rw [z, hp] at e; cases e
        rw [upd_ne hb]
        exact T2.ext.h b o e n, T2.ext.n, fun b e => by
        by_cases hb : b = p
        · rw [hb, upd_same] at e
          cases e
        · rw [upd_ne hb] at e
          exact T2.ext.t b e⟩
    have S2 : SR X.K G1 (upd H1 p (.dK (mergeK [] kvs))) en1 σ := by
      have Z := T.sr
      refine ⟨same_upd' Z.sub g1, Z.len, Z.shd, fun i d f q n => ?_, Z.sep⟩
      obtain ⟨a, o, e1, e2, e3, e4⟩ := Z.own i d f q n
      have ha : a ≠ p := fun z => no1 ⟨i, d, f, q, n, by rw [← z]; exact e1⟩
      exact ⟨a, o, e1, e2, by rw [upd_ne ha]; exact e3, e4⟩
    exact k _ G1 _ ⟨E, S2, T2.own, T2.lent⟩ ⟨p, _, rfl, .inl hp, no1, upd_same, g1, ro⟩
end
end Fx
/-! Fx10: sorted, min, max of data. -/
namespace Fx
open PySem PySem.Spec L2
section
variable {X : Cx} {pins : List (Addr × Obj)} {σ : St} {H : Hp} {s : Shared}
def Col (X : Cx) (pins : List (Addr × Obj)) (σ : St) (s : Shared) (v : Value) (T : Hp → List V → Prop) : Prop :=
  ∀ (R : List Value → Shared → Prop) (E : Value → Shared → Prop), (∀ us ys H2 h' tk, Vals ys us → Inv X pins σ H2 { s with heap := h', toks := tk } → T H2 ys → R us { s with heap := h', toks := tk }) → wpAny (model X.prog X.w) X.A.in1 (collect v) R E s
def Just (H : Hp) (ys : List V) : Hp → List V → Prop := fun H2 zs => H2 = H ∧ zs = ys
theorem col_list {a : Addr} {ys : List V} (I : Inv X pins σ H s) (h : SqL X.K H a ys) : Col X pins σ s (.ref a) (Just H ys) := fun R E k => by
  obtain ⟨its, rv, ⟨o, n, ho, hc, hd, hh⟩, hz⟩ := I.list h
  refine PySem.wpAny_collect_seq a (.inl rfl) ho hc hh (fun h' kp => ?_) (by rw [List.size_toArray, ← rv.length]; exact hz)
  exact k _ ys H h' s.toks (by simpa using rv) (I.kept (t' := s.toks) kp) ⟨rfl, rfl⟩
theorem col_tup {a : Addr} {ys : List V} (I : Inv X pins σ H s) (h : SqT X.K H a ys) : Col X pins σ s (.ref a) (Just H ys) := fun R E k => by
  obtain ⟨its, rv, ⟨o, ho, hc, n, hd⟩, hz⟩ := I.tuple h
  refine PySem.wpAny_collect_seq a (.inr rfl) ho hc hd (fun h' kp => ?_) (by rw [List.size_toArray, ← rv.length]; exact hz)
  exact k _ ys H h' s.toks (by simpa using rv) (I.kept (t' := s.toks) kp) ⟨rfl, rfl⟩
theorem vals_nth : ∀ {ys : List V} {us : List Value}, us.length = ys.length → (∀ (j : Nat) (v : Value), us[j]? = some v → ∃ x, ys[j]? = some x ∧ RelV x v) → Vals ys us
  | [], [], _, _ => .nil
  | [], _ :: _, h, _ => by cases h
  | _ :: _, [], h, _ => by cases h
  | y :: ys, u :: us, h, k => by
    obtain ⟨x, e, r⟩ := k 0 u rfl
    cases e
    exact .cons r (vals_nth (Nat.succ.inj h) fun j v e => k (j + 1) v e)
theorem col_dict (hc : X.calm = true) {a : Addr} {kvs : List (Key × V)} (I : Inv X pins σ H s) (h : Rd H a (.dK kvs)) : Col X pins σ s (.ref a) (Just H (kvs.map fun kv => kV kv.1)) := fun R E k => by
  obtain ⟨z, lo, vs, rel, dd⟩ := dk_rd I.hok h
  obtain ⟨ep, hat⟩ := dd.dictAt
  have hkeys : vs.map (·.1) = kvs.map (·.1) := rel.keys.symm
  have hl : vs.length = kvs.length := by
    have e := congrArg List.length hkeys
    rw [List.length_map, List.length_map] at e
    exact e
  refine PySem.W.kdu_collect (A := X.A.in1) (PySem.W.kdl_dict (knd := mixKind X.prog X.w) (kvs := vs) (ep := ep) lo) (I.ok.hd hc) hat (by rw [hl]; exact z) fun h' tk acc hk hacc => ?_
  refine k _ _ H h' tk (vals_nth (by rw [Array.length_toList, hacc.1, hl, List.length_map]) fun j v e => ?_) (I.kept hk) ⟨rfl, rfl⟩
  obtain ⟨kk, x, e1, e2⟩ := hacc.2 j v (by rw [← Array.getElem?_toList]; exact e)
  have e3 : (vs.map (·.1))[j]? = some kk := by rw [List.getElem?_map, e1]; all_goals rfl
  rw [hkeys, List.getElem?_map] at e3
  obtain ⟨kv, e4, e5⟩ := Option.map_eq_some_iff.mp e3
  refine ⟨kV kv.1, by rw [List.getElem?_map, e4]; rfl, ?_⟩
  rw [e5]
  rcases keyIs_shape e2 with ⟨i, t, e6, e7⟩ | ⟨x, t, e6, e7⟩
  · rw [e6, e7]
    exact ⟨t, rfl⟩
  · rw [e6, e7]
    exact ⟨t, rfl⟩
theorem paired_out {R : V → D → Prop} : ∀ {out : List Value} {ds : List D}, PySem.W.EachIs (fun u d => ∃ x, RelV x u ∧ R x d) out ds → ∃ zs, Vals zs out ∧ Paired R zs ds
  | _, _, .nil => ⟨[], .nil, .nil⟩
  | _, _, .cons ⟨x, r1, r2⟩ t => by
    obtain ⟨zs, h1, h2⟩ := paired_out t
    exact ⟨x :: zs, .cons r1 h1, .cons r2 h2⟩
theorem paired_in {R : V → D → Prop} : ∀ {ys : List V} {us : List Value} {ds : List D}, Vals ys us → Paired R ys ds → PySem.W.EachIs (fun u d => ∃ x, RelV x u ∧ R x d) us ds
  | _, _, _, .nil, .nil => .nil
  | _, _, _, .cons r1 t, .cons r2 t2 => .cons ⟨_, r1, r2⟩ (paired_in t t2)
def srtD (ds : List D) : List D := ds.mergeSort (PySem.W.dataLe false fun d : D => d)
/-- may such data be sorted -/
def sortOk (ds : List D) : Bool := decide (ds.length ≤ sizeLine) && ds.all (fun d => ds.all fun e => PySem.W.alike d e) && (ds.all (fun d => match d with
  | .tuple (_ :: _) => true
  | _ => false) || ds.all (fun d => match d with
  | .tuple _ => false
  | .none => false
  | _ => true)) && ds.all fun d => decide (d.depth < 40)
theorem sortOk_of {ds : List D} (h : sortOk ds = true) : ds.length ≤ sizeLine ∧ PySem.W.AllAlike ds ∧ PySem.W.Sortable ds ∧ ∀ d ∈ ds, d.depth < 40 := by
  unfold sortOk at h
  rw [Bool.and_eq_true, Bool.and_eq_true, Bool.and_eq_true, Bool.or_eq_true] at h
  obtain ⟨⟨⟨h1, h2⟩, h3⟩, h4⟩ := h
  refine ⟨of_decide_eq_true h1, fun d hd e he => ?_, ?_, fun d hd => of_decide_eq_true (List.all_eq_true.mp h4 d hd)⟩
  · exact List.all_eq_true.mp (List.all_eq_true.mp h2 d hd) e he
  · rcases h3 with h3 | h3
    · refine .inl fun d hd => ?_
      have := List.all_eq_true.mp h3 d hd
      split at this
      · exact ⟨_, _, rfl⟩
      · cases this
    · refine .inr fun d hd => ?_
      have := List.all_eq_true.mp h3 d hd
      split at this
      · cases this
      · cases this
      · rename_i n1 n2
        exact ⟨fun e => n2 e, fun xs e => n1 xs e⟩
/-- the sort of what was collected -/
theorem sort_run {x : Value} {T : Hp → List V → Prop} {ds : List D} {Q : VK} (hu : X.A.units + 64 < cLine) (C : Col X pins σ s x T) (ok : sortOk ds = true)
    (hT : ∀ H ys, T H ys → DpAll X.K H ys ds ∧ ∃ R : V → D → Prop, Paired R ys ds ∧ ∀ p zs, H p = none → Paired R zs (srtD ds) → Q (.ref p) (upd H p (.lst zs))) : wpAny (model X.prog X.w) X.A (call (.builtin "sorted") [x]) (EP X pins σ Q) X.xe s := by
  obtain ⟨hz, hal, hk, hd⟩ := sortOk_of ok
  refine Calls.call_function_entry PyProof.Rows.kind_sorted PyProof.Rows.plain_sorted PyProof.Rows.entry_sorted (PyProof.Rows.args_sorted1 _) ?_
  unfold Builtin.«sorted»
  refine wpAny_bind (m := checkCount "sorted" 1 1 _) (wpAny_pure ?_)
  refine wpAny_bind (C _ _ fun us ys H h' tk rv I hh => ?_)
  obtain ⟨dp, R, pr, q⟩ := hT H ys hh
  have hl : us.length = ds.length := rv.length.symm.trans pr.length
  refine wpAny_bind (wpAny_newList ?_ (by rw [hl]; exact hz))
  have hoL : (h'.push (PyProof.Rows.seqObj "list" us.toArray 0)).get? h'.objs.size = some (PyProof.Rows.seqObj "list" us.toArray 0) := Heap.get?_push_size _ rfl
  show wpAny _ _ _ _ _ { s with heap := h'.push (PyProof.Rows.seqObj "list" us.toArray 0), toks := tk }
  have hn : H h'.objs.size = none := I.hok.fresh (Nat.le_refl _)
  have er : PySem.W.EachIs (fun v d => ∃ as, Reads (PySem.W.sortingHeap (h'.push (PyProof.Rows.seqObj "list" us.toArray 0)) h'.objs.size us) v d as) us ds := by
    obtain ⟨as, ra⟩ := Dp.readsAll I ds ys us dp rv
    have e0 := PySem.W.readsAll_each (fun d : D => d) (bs := ds) (by rw [List.map_id']; exact ra)
    exact e0.mono fun v d ⟨as, r⟩ => ⟨as, PyProof.Rows.Reads.keeps (fun b o e => PySem.W.sortingHeap_old (Nat.ne_of_lt (Heap.lt_size e)) (Heap.get?_push_of_some _ e)) r⟩
  have eR := paired_in rv pr
  have S : PySem.W.SortsAt X.prog X.w X.A.in1.in1 { s with heap := PySem.W.sortingHeap (h'.push (PyProof.Rows.seqObj "list" us.toArray 0)) h'.objs.size us, toks := tk } (PySem.W.dataKind (PySem.W.sortingHeap (h'.push (PyProof.Rows.seqObj "list" us.toArray 0)) h'.objs.size us) ds) us :=
    PySem.W.SortsAt.data (s := { s with heap := PySem.W.sortingHeap (h'.push (PyProof.Rows.seqObj "list" us.toArray 0)) h'.objs.size us, toks := tk }) er hal hk fun d hm => by
      have h1 := hd d hm
      have h2 : X.A.in1.in1.units ≤ X.A.units + 2 := by
        first | rfl | exact Nat.le_refl _ | decide
      omega
  refine wpAny_bind (wpAny_holding (PySem.wpAny_call_entry PyProof.Rows.slot_list_sort ⟨_, hoL, rfl⟩ PyProof.Rows.entry_list_sort (PySem.W.list_sort_vals (s := { s with heap := h'.push (PyProof.Rows.seqObj "list" us.toArray 0), toks := tk }) hoL S (by rw [hl]; exact hz) ?_) (PyProof.Rows.args_list_sort _)))
  refine ⟨_, rfl, wpAny_pure ⟨_, rfl, ?_⟩⟩
  have eo := PySem.W.sortVals_data (enc := fun d : D => d) false eR er (by rw [List.map_id']; exact hal)
  rw [List.map_id'] at eo
  obtain ⟨zs, rz, pz⟩ := paired_out eo
  generalize hO : PySem.W.sortVals (PySem.W.dataKind (PySem.W.sortingHeap (h'.push (PyProof.Rows.seqObj "list" us.toArray 0)) h'.objs.size us) ds) false us us = out at rz ⊢
  obtain ⟨n, hat⟩ := PyProof.Rows.sortedHeap_at (vs := us) (out := out.toArray) hoL
  have hlt : h'.objs.size < (h'.push (PyProof.Rows.seqObj "list" us.toArray 0)).objs.size := Heap.lt_size hoL
  have kp : ∀ b o, h'.get? b = some o → (PyProof.Rows.sortedHeap (h'.push (PyProof.Rows.seqObj "list" us.toArray 0)) h'.objs.size us out.toArray).get? b = some o := fun b o e => by
    have hb : b < h'.objs.size := Heap.lt_size e
    rw [PyProof.Rows.sortedHeap_old (Nat.ne_of_lt hb) (Nat.lt_trans hb hlt)]
    exact Heap.get?_push_of_some _ e
  refine ⟨.ref h'.objs.size, upd H h'.objs.size (.lst zs), I.laid (t' := tk) kp (Nat.le_refl _) ⟨?_, out, n, rz, hat⟩, rfl, q _ zs hn pz⟩
  rw [pz.length, List.length_mergeSort]
  exact hz
/-! ### sorted -/
def rSortG (K : PySem.W.Frag) : List V → Hp → VK → Prop := fun vs H Q => ∃ (a : Addr) (ys : List V) (ds : List D) (R : V → D → Prop), vs = [.ref a] ∧ (SqL K H a ys ∨ SqT K H a ys ∨ ∃ kvs, Rd H a (.dK kvs) ∧ ys = kvs.map fun kv => kV kv.1) ∧
  DpAll K H ys ds ∧ Paired R ys ds ∧ sortOk ds = true ∧ ∀ p zs, H p = none → Paired R zs (srtD ds) → Q (.ref p) (upd H p (.lst zs))
theorem cr_sortG (hc : X.calm = true) (hu : X.A.units + 64 < cLine) : CallR X (.builtin "sorted") (rSortG X.K) := by
  intro pins s σ H xs us Q I r ⟨a, ys, ds, R, e, h, dp, pr, ok, q⟩
  subst e
  obtain ⟨u, rfl, rx⟩ := Vals.one r
  cases rx
  have hT : ∀ H' zs, Just H ys H' zs → DpAll X.K H' zs ds ∧ ∃ R : V → D → Prop, Paired R zs ds ∧ ∀ p zs, H' p = none → Paired R zs (srtD ds) → Q (.ref p) (upd H' p (.lst zs)) := by
    rintro _ _ ⟨rfl, rfl⟩
    exact ⟨dp, R, pr, q⟩
  rcases h with h | h | ⟨kvs, h, e⟩
  · exact sort_run hu (col_list I h) ok hT
  · exact sort_run hu (col_tup I h) ok hT
  · subst e
    exact sort_run hu (col_dict hc I h) ok hT
theorem reps_dp {K : PySem.W.Frag} {G H : Hp} (s : Same G H) : ∀ {xs : List V} {ds : List D}, Reps K G xs ds → (∀ d ∈ ds, d.canLay0 = true) → DpAll K H xs ds
  | _, _, .nil, _ => .nil
  | _, _, .cons h t, c => .cons (Use.dp s (.inl h) (c _ (List.mem_cons_self ..))) (reps_dp s t fun d hd => c d (List.mem_cons_of_mem _ hd))
theorem reps_pair {K : PySem.W.Frag} {G : Hp} : ∀ {xs : List V} {ds : List D}, Reps K G xs ds → Paired (Rep K G) xs ds
  | _, _, .nil => .nil
  | _, _, .cons h t => .cons h (reps_pair t)
theorem pair_reps {K : PySem.W.Frag} {G : Hp} : ∀ {xs : List V} {ds : List D}, Paired (Rep K G) xs ds → Reps K G xs ds
  | _, _, .nil => .nil
  | _, _, .cons h t => .cons h (pair_reps t)
def seqK : D → Option (List D)
  | .list ds => some ds
  | .tuple ds => some ds
  | .dict es => some (es.map (·.1))
  | _ => none
def layOk (ds : List D) : Bool := ds.all fun d => d.canLay0
def dSort : List D → Option (D × Bool)
  | [d] => (seqK d).bind fun ds => if sortOk ds = true ∧ layOk ds = true then some (.list (srtD ds), true) else none
  | _ => none
theorem repKV_keys {K : PySem.W.Frag} {G : Hp} : ∀ {kvs : List (Key × V)} {es : List (D × D)}, RepKV K G kvs es → Reps K G (kvs.map fun kv => kV kv.1) (es.map (·.1))
  | _, _, .nil => .nil
  | _, _, .cons (k := k) h t => .cons (by cases k; exact .int _; exact .str _) (repKV_keys t)
theorem on_sort {K : PySem.W.Frag} : OpN K (rSortG K) dSort := fun vs ds z b G H Q s u hg k => by
  unfold dSort at hg
  split at hg
  · obtain ⟨ds, h1, h2⟩ := Option.bind_eq_some_iff.mp hg
    obtain ⟨⟨ok, lay⟩, h3⟩ := ite_some h2
    cases h3
    obtain ⟨v, rfl, u0⟩ := u.one
    have lay' : ∀ d ∈ ds, d.canLay0 = true := fun d hd => List.all_eq_true.mp lay d hd
    have fin : ∀ (p : Addr) (zs : List V), H p = none → Paired (Rep K G) zs (srtD ds) → Q (.ref p) (upd H p (.lst zs)) := fun p zs hp pz => k _ _ _ (New.own s hp) (Fresh.new s hp (.lst (pair_reps pz)))
    unfold seqK at h1
    split at h1
    · cases h1
      obtain ⟨a, xs, rfl, h, r⟩ := u0.list s
      exact ⟨a, xs, _, Rep K G, rfl, .inl h, reps_dp s r lay', reps_pair r, ok, fin⟩
    · cases h1
      obtain ⟨a, xs, rfl, h, r⟩ := u0.tuple s
      exact ⟨a, xs, _, Rep K G, rfl, .inr (.inl h), reps_dp s r lay', reps_pair r, ok, fin⟩
    · cases h1
      obtain ⟨a, kvs, rfl, h, r⟩ := u0.dict s
      exact ⟨a, _, _, Rep K G, rfl, .inr (.inr ⟨kvs, h, rfl⟩), reps_dp s (repKV_keys r) lay', reps_pair (repKV_keys r), ok, fin⟩
    · cases h1
  · cases hg
/-! ### the pairs of a dict, laid as tuples -/
theorem un_more {fs ex : List Addr} {H H1 : Hp} {h h' : Heap} {a : Addr} {o : HO} (u : Un fs ex H H1 h h') (ha : h.get? a = none) (hn : H1 a = none) : Un fs ex H (upd H1 a o) h h' where
  keep := u.keep
  slot := u.slot
  free := fun b v q n x => by rw [upd_ne (fun z => by rw [z, ha] at q; cases q)]; exact u.free b v q n x
  there := u.there
  tups := fun b xs q => by
    have e := u.tups b xs q
    rw [upd_ne (ne_of_none e hn)]; exact e
  frzs := fun b v xs q => by
    have e := u.frzs b v xs q
    rw [upd_ne (ne_of_none e hn)]; exact e
  tbls := fun b ps q => by
    obtain ⟨m, e⟩ := u.tbls b ps q
    exact ⟨m, by rw [upd_ne (ne_of_none e hn)]; exact e⟩
inductive ItM : Hp → List (Key × V) → Hp → List V → Prop
  | nil {H : Hp} : ItM H [] H []
  | cons {H H2 : Hp} {p : Addr} {o : Obj} {k : Key} {v : V} {r : List (Key × V)} {ys : List V} : H p = none → o.dict = none → ItM (upd H p (.frz o (.tup [kV k, v]))) r H2 ys → ItM H ((k, v) :: r) H2 (.ref p :: ys)
theorem kV_of {k : Key} {u : Value} (h : keyIs k u = true) : RelV (kV k) u := by
  rcases keyIs_shape h with ⟨i, t, e6, e7⟩ | ⟨x, t, e6, e7⟩
  · rw [e6, e7]
    exact ⟨t, rfl⟩
  · rw [e6, e7]
    exact ⟨t, rfl⟩
theorem items_laid {h h' : Heap} {P : Program} {w : World} {fs ex : List Addr} {H0 : Hp} (sz : 2 ≤ sizeLine) : ∀ {kvs : List (Key × V)} {vs : List (Key × Value)} {as : List Addr} {H : Hp}, KV kvs vs → as.length = vs.length → Un fs ex H0 H h h' → HOk P w H h' → (∀ a ∈ as, h.get? a = none ∧ H a = none) → as.Nodup →
    (∀ (j : Nat) (a : Addr), as[j]? = some a → ∃ key k x, vs[j]? = some (k, x) ∧ keyIs k key = true ∧ h'.get? a = some { cls := .type "tuple", data := .seq #[key, x] }) →
    ∃ H2 ys, ItM H kvs H2 ys ∧ Vals ys (as.map Value.ref) ∧ Un fs ex H0 H2 h h' ∧ HOk P w H2 h'
  | [], [], as, H, .nil, hl, u, ok, _, _, _ => by
    cases as with
    | nil => exact ⟨H, [], .nil, .nil, u, ok⟩
    | cons _ _ => cases hl
  | (k, v) :: kvs, _, as, H, .cons (b := q) (l₂ := vs) hr t, hl, u, ok, hf, nd, hp => by
    cases as with
    | nil => cases hl
    | cons a as =>
      obtain ⟨key, k', x, e1, e2, e3⟩ := hp 0 a rfl
      cases e1
      obtain ⟨ek, rv⟩ := hr
      have ek : k = k' := ek
      subst ek
      obtain ⟨f1, f2⟩ := hf a (List.mem_cons_self ..)
      have ok1 : HOk P w (upd H a (.frz { cls := .type "tuple", data := .seq #[key, x] } (.tup [kV k, v]))) h' := HOk.laidN ok (fun _ _ e => e) f2 ⟨e3, sz, [key, x], .cons (kV_of e2) (.cons rv .nil), ⟨_, e3, rfl, _, rfl⟩⟩
      have nd' := List.nodup_cons.mp nd
      obtain ⟨H2, ys, w1, w2, w3, w4⟩ := items_laid sz (as := as) t (Nat.succ.inj hl) (un_more u f1 f2) ok1 (fun b hb => ⟨(hf b (List.mem_cons_of_mem _ hb)).1, by
        rw [upd_ne (fun z => nd'.1 (by rw [← z]; exact hb))]
        exact (hf b (List.mem_cons_of_mem _ hb)).2⟩) nd'.2 fun j b e => hp (j + 1) b e
      exact ⟨H2, _, .cons f2 rfl w1, .cons rfl w2, w3, w4⟩
theorem col_items (hc : X.calm = true) {p a : Addr} {kvs : List (Key × V)} (I : Inv X pins σ H s) (hp : H p = some (DX.itemsO p a)) (h : Rd H a (.dK kvs)) : Col X pins σ s (.ref p) (fun H2 ys => ItM H kvs H2 ys) := fun R E k => by
  have view : s.heap.IsItemsView p a := (show ObjOk X.prog X.w H s.heap p (DX.itemsO p a) from I.hok p _ hp).1
  obtain ⟨z, lo, vs, rel, dd⟩ := dk_rd I.hok h
  obtain ⟨ep, hat⟩ := dd.dictAt
  refine PySem.W.kdx_collect (A := X.A.in1) (knd := mixKind X.prog X.w) (I.ok.hd hc) view hat (by rw [← rel.length]; exact z) fun h' tk as hk hl g => ?_
  have nd : as.Nodup := List.Pairwise.imp (fun h => Nat.ne_of_lt h) g.rise
  have ab : ∀ b ∈ as, s.heap.get? b = none ∧ H b = none := fun b hb => by
    have h1 := Nat.le_of_lt (g.above b hb)
    refine ⟨?_, I.hok.fresh h1⟩
    cases e : s.heap.get? b with
    | none => rfl
    | some o => exact absurd (Heap.lt_size e) (Nat.not_lt.mpr h1)
  have I1 : Inv X pins σ H { s with heap := h', toks := tk } := I.kept hk
  obtain ⟨H2, ys, w1, w2, w3, w4⟩ := items_laid (P := X.prog) (w := X.w) (fs := X.fs) (ex := []) (H0 := H) (h := s.heap) (by rw [sizeLine_eq]; omega) rel hl (by
      exact ⟨fun b u q _ _ _ => hk b u q, fun b u q _ _ _ => ⟨u.slots, hk b u q⟩, fun b u q n _ => n, fun b u q _ => ⟨u, hk b u q⟩, fun _ _ q => q, fun _ _ _ q => q, fun b ps q => ⟨#[], by rw [q]; simp⟩⟩) I1.hok ab nd g.pairs
  exact k _ ys H2 h' tk w2 (I.un w3 w4) w1
/-! ### d.items() -/
def rItemsK (K : PySem.W.Frag) : V → List V → Hp → VK → Prop := fun x xs H Q => ∃ (a : Addr) (kvs : List (Key × V)), x = .ref a ∧ xs = [] ∧ Rd H a (.dK kvs) ∧ ∀ p, H p = none → Q (.ref p) (upd H p (DX.itemsO p a))
theorem mt_itemsK : MtR X "dict.items" (rItemsK X.K) := by
  intro pins s σ H x xs v us Q I rx rxs ⟨a, kvs, e1, e2, ha, q⟩
  subst e1
  subst e2
  cases rx
  cases rxs
  obtain ⟨z, lo, vs, rel, dd⟩ := dk_rd I.hok ha
  obtain ⟨ep, o, es, ho, hx, hdat, _⟩ := dd.dictAt
  refine DT.callItems (es := es) (ep := ep) lo ⟨o, ho, hx, hdat⟩ ?_
  have hf : H s.heap.objs.size = none := I.hok.fresh (Nat.le_refl _)
  exact ⟨.ref s.heap.objs.size, upd H s.heap.objs.size (DX.itemsO s.heap.objs.size a), I.laid (t' := s.toks) (fun b u e => Heap.get?_push_of_some _ e) (Nat.le_refl _) (DX.itemsO_ok (Heap.get?_push_size _ rfl)), rfl, q _ hf⟩
/-- sorted(d.items()) -/
def rSortIK (K : PySem.W.Frag) : List V → Hp → VK → Prop := fun vs H Q => ∃ (p a : Addr) (kvs : List (Key × V)) (ds : List D), vs = [.ref p] ∧ H p = some (DX.itemsO p a) ∧ Rd H a (.dK kvs) ∧ sortOk ds = true ∧
  ∀ H2 ys, ItM H kvs H2 ys → DpAll K H2 ys ds ∧ ∃ R : V → D → Prop, Paired R ys ds ∧ ∀ p zs, H2 p = none → Paired R zs (srtD ds) → Q (.ref p) (upd H2 p (.lst zs))
theorem cr_sortIK (hc : X.calm = true) (hu : X.A.units + 64 < cLine) : CallR X (.builtin "sorted") (rSortIK X.K) := by
  intro pins s σ H xs us Q I r ⟨p, a, kvs, ds, e, hp, h, ok, q⟩
  subst e
  obtain ⟨u, rfl, rx⟩ := Vals.one r
  cases rx
  exact sort_run hu (col_items hc I hp h) ok q
theorem repKV_items {K : PySem.W.Frag} : ∀ {kvs : List (Key × V)} {es : List (D × D)} {G H H2 : Hp} {ys : List V}, ItM H kvs H2 ys → RepKV K G kvs es → Same G H → ∃ G2, New G H G2 H2 ∧ Reps K G2 ys (es.map fun p => .tuple [p.1, p.2])
  | _, _, G, H, _, _, .nil, .nil, s => ⟨G, New.refl s, .nil⟩
  | _, _, G, H, H2, _, .cons (p := p) (o := o) (k := k) (v := v) hp ho t, .cons h rt, s => by
    have N := New.shd (o := .frz o (.tup [kV k, v])) s hp
    obtain ⟨G2, N2, r2⟩ := repKV_items t (rt.mono N.ext.g) N.sub
    refine ⟨G2, ⟨N.ext.trans N2.ext fun _ h => .inl h, N2.sub⟩, .cons ?_ r2⟩
    refine Rep.mono N2.ext.g (.tup (.inl ⟨o, upd_same, ho⟩) (.cons ?_ (.cons (h.mono N.ext.g) .nil)))
    cases k
    · exact .int _
    · exact .str _
def dSortI : D → Option (D × Bool)
  | .dict es => if sortOk (es.map fun p => .tuple [p.1, p.2]) = true ∧ layOk (es.map fun p => .tuple [p.1, p.2]) = true then some (.list (srtD (es.map fun p => .tuple [p.1, p.2])), true) else none
  | _ => none
theorem fe_sortI {o : Expr} {p : Ov} {np apos cpos pos : Pos} (hc : X.calm = true) (hu : X.A.units + 64 < cLine) (hm : X.mg "sorted" = none) (ho : PE X o (FO X.K p)) (hg : Gl X "sorted" := by rfl) (hbase : attributeBase o "items" X.env (eval o X.env) = eval o X.env := by rfl) (hline : (apos.endLine == cpos.line) = true := by rfl)
    (he : starEach [.Call (.Attribute o "items" apos) [] [] cpos] X.env = [(false, eval (.Call (.Attribute o "items" apos) [] [] cpos) X.env)] := by rfl) (hpl : (backTo pos (starEach [] X.env)).any (·.1) = false := by rfl) :
    PE X (.Call (.Name "sorted" np) [.Call (.Attribute o "items" apos) [] [] cpos] [] pos) (FE X.K (f1 p dSortI)) :=
  pe_imp (pe_callB (cr_sortIK hc hu) hg hm (by decide +kernel) (pa_cons (pe_mG0 (kindD X).ok PySem.F.plainAttrs_dict PySem.F.slot_dict_items PySem.F.type_dict_items mt_itemsK ho hbase hline) pa_nil he) (by decide) (by decide) he hpl) fun σ H Q ⟨G, en, d, b, en', S, e1, k⟩ => by
    obtain ⟨⟨x, en1⟩, p1, e2⟩ := Option.bind_eq_some_iff.mp e1
    obtain ⟨d0, p3, e4⟩ := Option.bind_eq_some_iff.mp e2
    obtain ⟨⟨z', b'⟩, p5, e6⟩ := Option.map_eq_some_iff.mp e4
    cases e6
    unfold dSortI at p5
    split at p5
    · obtain ⟨⟨ok, lay⟩, e7⟩ := ite_some p5
      cases e7
      refine ⟨G, en, x, en1, S, p1, fun v G1 H1 T1 r1 => ?_⟩
      have U := r1.use T1.sr p3
      obtain ⟨a, kvs, rfl, h, r⟩ := U.dict T1.sr.sub
      refine ⟨(kindD X).use T1.sr.sub U rfl, a, kvs, rfl, rfl, h, fun q hq => ?_⟩
      have N0 := New.own (o := DX.itemsO q a) T1.sr.sub hq
      refine ⟨q, a, kvs, _, rfl, upd_same, rdS (fun b o e => N0.ext.h b o e (fun z => z)) h, ok, fun H2 ys im => ?_⟩
      obtain ⟨G2, N2, r2⟩ := repKV_items im r N0.sub
      refine ⟨reps_dp N2.sub r2 fun d hd => List.all_eq_true.mp lay d hd, Rep X.K G2, reps_pair r2, fun l zs hl pz => ?_⟩
      have N3 := New.own (o := .lst zs) N2.sub hl
      have N : New G1 H1 G2 (upd H2 l (.lst zs)) := ⟨(N0.ext.trans N2.ext fun _ h => .inl h).trans N3.ext fun _ h => .inl h, N3.sub⟩
      refine k _ _ _ (T1.trans (N.step T1.sr)) (Fresh.res' T1 ?_)
      obtain ⟨a, o, e, q1, q2, q3, q4, q5⟩ := Fresh.new (K := X.K) N2.sub hl (.lst (pair_reps pz))
      refine ⟨a, o, e, .inl ?_, q2, q3, q4, q5⟩
      cases e
      exact N0.ext.t l (N2.ext.t l hl)
    · cases p5
end
end Fx
/-! Fx11: several names by a tuple, list(range(..)). -/
namespace Fx
open PySem PySem.Spec L2
section
variable {K : PySem.W.Frag} {X : Cx} {a b e o : Expr} {es : List Expr} {pos p apos cpos : Pos}
theorem resL_step {O : Addr → Prop} {H0 : Hp} {G H G1 H1 : Hp} {en : En} {σ : St} (T : Step K en en σ G H G1 H1) : ∀ {vs : List V} {ds : List (D × Bool)}, ResL K O H0 (OwnA en σ) G H vs ds → ResL K O H0 (OwnA en σ) G1 H1 vs ds
  | _, _, .nil => .nil
  | _, _, .cons (b := b) r t => by
    refine .cons ?_ (resL_step T t)
    cases b with
    | false => exact Rep.mono T.ext.g r
    | true =>
      obtain ⟨a, o, e, q1, q2, q3, q4, q5⟩ := r
      have n : ¬ OwnA en σ a := fun z => q2 (.inl z)
      exact ⟨a, o, e, q1, q2, T.ext.h a o q3 n, T.ext.n a o q3 n q4, q5.mono T.ext.g⟩
def gNs (is : List Nat) : TGs := fun vs σ H Q => vs.length = is.length ∧ Q (stAll is vs σ) H
theorem gns_nil : PGs X [] (gNs []) := pgs_imp pgs_nil fun vs σ H Q ⟨hl, q⟩ => by
  cases vs with
  | nil => exact ⟨rfl, q⟩
  | cons _ _ => cases hl
theorem gns_cons {i : Nat} {is : List Nat} {x : Str} (hN : X.N.Nodup) (h2 : PGs X es (gNs is)) (hi : X.N[i]? = some x := by rfl) (hx : Loc X.env.scope x := by first | exact .inl rfl | exact .inr rfl) (hf : X.fn x = true ∨ X.env.scope.names.lookup x = some .local := by first | exact .inl rfl | exact .inr rfl | assumption)
    (hs : (assignEach (.Name x pos :: es) X.env).map (·.2) = assign (.Name x pos) X.env :: (assignEach es X.env).map (·.2) := by rfl) : PGs X (.Name x pos :: es) (gNs (i :: is)) :=
  pgs_imp (pgs_cons (pg_name hN hi hx hf) h2 hs) fun vs σ H Q ⟨hl, q⟩ => by
    cases vs with
    | nil => cases hl
    | cons v vs => exact ⟨v, vs, rfl, Nat.succ.inj hl, q⟩
theorem fs_parT {ns : List Expr} {is : List Nat} {l : Mv} {k1 x1} {p1 p2 : Pos} {n : Nat} (hc : X.calm = true) (hn : PGs X ns (gNs is)) (ha : PA X es (FM X.K l)) (hs : swapsWithSole [.Tuple ns k1 p1] (.Tuple es x1 p2) pos.line X.env = pure false := by rfl) (hw : swappedStores [.Tuple ns k1 p1] (.Tuple es x1 p2) X.env = pure none := by rfl)
    (h1 : (assignEach [.Tuple ns k1 p1] X.env).map (·.2) = [assign (.Tuple ns k1 p1) X.env] := by rfl) (hm : (assignEach ns X.env).length = n := by rfl) (hst : (assignEach ns X.env).findIdx? (·.1) = none := by rfl) (hi : is.length = n := by rfl) (hz : is.length ≤ 100 := by decide) :
    PS X (.Assign [.Tuple ns k1 p1] (.Tuple es x1 p2) pos) (FS X.K (sParN is l)) := ps_imp (ps_asg (pe_tupZ ha) (pg_tup hc hn hm hst) hs hw h1) fun D σ H ⟨G, en, out, en', S, e1, k⟩ => by
  obtain ⟨⟨ds, en1⟩, q1, e2⟩ := Option.bind_eq_some_iff.mp e1
  obtain ⟨en2, q2, e3⟩ := Option.map_eq_some_iff.mp e2
  cases e3
  refine ⟨G, en, ds, en1, S, q1, fun vs G1 H1 T r => ?_⟩
  have hl := (resL_len r).trans (putAll_len q2).symm
  refine ⟨by rw [hl, sizeLine_eq]; omega, fun q o hq ho => ?_⟩
  have N := New.own (o := .frz o (.tup vs)) T.sr.sub hq
  have T2 := N.step T.sr
  refine ⟨q, vs, rfl, .inl (.inr ⟨o, upd_same⟩), hl.trans hi, hl, ?_⟩
  exact k G1 _ _ (put_all (T.trans T2).s (resL_step T2 r) q2)
/-! ### list(range(..)) -/
def rgD (i j : Int) : List D := (List.range (j - i).toNat).map fun n => .int (i + (n : Nat))
theorem reps_rg {G : Hp} (i j : Int) : Reps K G (rgV i j) (rgD i j) := by
  unfold rgV rgD
  have go : ∀ l : List Nat, Reps K G (l.map fun n => V.int (i + (n : Nat))) (l.map fun n => .int (i + (n : Nat))) := by
    intro l
    induction l with
    | nil => exact .nil
    | cons c r ih => exact .cons (.int _) ih
  exact go _
def rgOk (i j : Int) : Bool := decide (-(2 ^ 62) ≤ i) && decide (i < 2 ^ 62) && decide (-(2 ^ 62) ≤ j) && decide (j < 2 ^ 62) && decide ((j - i).toNat ≤ 2 ^ 24)
theorem rgOk_of {i j : Int} (h : rgOk i j = true) : RgOk i j := by
  unfold rgOk at h
  simp only [Bool.and_eq_true, decide_eq_true_eq] at h
  exact ⟨h.1.1.1.1, h.1.1.1.2, h.1.1.2, h.1.2, h.2⟩
def fLr1 (f : Vv) : Ev := fun en => (f en).bind fun x => match x.1 with
  | .int j => if rgOk 0 j = true then some (.list (rgD 0 j), true, x.2) else none
  | _ => none
def fLr2 (f g : Vv) : Ev := fun en => (f en).bind fun x => (g x.2).bind fun y => match x.1, y.1 with
  | .int i, .int j => if rgOk i j = true then some (.list (rgD i j), true, y.2) else none
  | _, _ => none
theorem fe_lr1 {f : Vv} {p1 p2 : Pos} (hc : X.calm = true) (hm1 : X.mg "list" = none) (hm2 : X.mg "range" = none) (ha : PE X a (FV X.K f)) (hg1 : Gl X "list" := by rfl) (hg2 : Gl X "range" := by rfl) (n1 : starEach [a] X.env = (false, eval a X.env) :: starEach [] X.env := by rfl)
    (n2 : starEach [.Call (.Name "range" p2) [a] [] pos] X.env = (false, eval (.Call (.Name "range" p2) [a] [] pos) X.env) :: starEach [] X.env := by rfl) : PE X (.Call (.Name "list" p1) [.Call (.Name "range" p2) [a] [] pos] [] p) (FE X.K (fLr1 f)) :=
  pe_imp (pe_listRg hc hg1 hm1 (prg_1 hg2 hm2 ha n1) n2) fun σ H Q ⟨G, en, d, b, en', S, e1, k⟩ => by
    obtain ⟨⟨x, en1⟩, p1, e2⟩ := Option.bind_eq_some_iff.mp e1
    refine ⟨G, en, x, en1, S, p1, fun v G1 H1 T r => ?_⟩
    dsimp only at e2
    split at e2
    · rename_i j
      obtain ⟨ok, e3⟩ := ite_some e2
      cases e3
      cases r
      refine ⟨_, rfl, rgOk_of ok, fun q hq => ?_⟩
      have N := New.own (o := .lst (rgV 0 j)) T.sr.sub hq
      exact k _ _ _ (T.trans (N.step T.sr)) (Fresh.res' T (Fresh.new T.sr.sub hq (.lst (reps_rg _ _))))
    · cases e2
theorem fe_lr2 {f g : Vv} {p1 p2 : Pos} (hc : X.calm = true) (hm1 : X.mg "list" = none) (hm2 : X.mg "range" = none) (ha : PE X a (FV X.K f)) (hb : PE X b (FV X.K g)) (hg1 : Gl X "list" := by rfl) (hg2 : Gl X "range" := by rfl) (n0 : starEach [a, b] X.env = (false, eval a X.env) :: starEach [b] X.env := by rfl) (n1 : starEach [b] X.env = (false, eval b X.env) :: starEach [] X.env := by rfl)
    (hp : (backTo pos (starEach [b] X.env)).any (·.1) = false := by rfl) (n2 : starEach [.Call (.Name "range" p2) [a, b] [] pos] X.env = (false, eval (.Call (.Name "range" p2) [a, b] [] pos) X.env) :: starEach [] X.env := by rfl) : PE X (.Call (.Name "list" p1) [.Call (.Name "range" p2) [a, b] [] pos] [] p) (FE X.K (fLr2 f g)) :=
  pe_imp (pe_listRg hc hg1 hm1 (prg_2 hg2 hm2 ha hb n0 n1 hp) n2) fun σ H Q ⟨G, en, d, bb, en', S, e1, k⟩ => by
    obtain ⟨⟨x, en1⟩, p1, e2⟩ := Option.bind_eq_some_iff.mp e1
    obtain ⟨⟨y, en2⟩, p2, e2⟩ := Option.bind_eq_some_iff.mp e2
    refine ⟨G, en, x, en1, S, p1, fun v G1 H1 T1 r1 => ⟨G1, en1, y, en2, T1.sr, p2, fun w G2 H2 T2 r2 => ?_⟩⟩
    dsimp only at e2
    split at e2
    · rename_i i j _
      obtain ⟨ok, e3⟩ := ite_some e2
      cases e3
      cases r1
      cases r2
      refine ⟨_, _, rfl, rfl, rgOk_of ok, fun q hq => ?_⟩
      have T := T1.trans T2
      have N := New.own (o := .lst (rgV i j)) T.sr.sub hq
      exact k _ _ _ (T.trans (N.step T.sr)) (Fresh.res' T (Fresh.new T.sr.sub hq (.lst (reps_rg _ _))))
    · cases e2
end
end Fx
/-! Fx12: own defs by name. -/
namespace Fx
open PySem PySem.Spec L2
def fuelN : Nat := 1000000
theorem _root_.L2.Room.u65 {k : Nat} {A : Around} (r : Room k A) : A.units + 65 < cLine := by have := r.un; omega
theorem _root_.L2.Room.u1 {k : Nat} {A : Around} (r : Room k A) : A.units + 1 < cLine := by have := r.un; omega
theorem _root_.L2.Room.u64 {k : Nat} {A : Around} (r : Room k A) : A.units + 64 < cLine := by have := r.un; omega
/-- an own def, its promise -/
def Ow (P : Program) (w : World) (K : PySem.W.Frag) (mg : Str → Option Value) (base : Heap) (k : Nat) (x : Str) (ps : List Str) (sp : Sp) : Prop :=
  ∃ (f : Addr) (fd : FuncData), mg x = some (.ref f) ∧ PySem.W.keepIn K (.ref f) = true ∧ Binds K fd ps [] ∧ FnOk P w K mg base CX0 k f fd ps sp
section
variable {X : Cx} {k j np : Nat} {ps : List Str} {x : Str} {p pos : Pos} {e : Expr} {es : List Expr}
theorem fe_callO {l : Lv} {F0 : List D → Option (D × Bool)} (o : Ow X.prog X.w X.K X.mg X.base j x ps (sp0 X.K np F0)) (hr : Room k X.A) (ha : PA X (e :: es) (FL X.K l)) (hjk : j ≤ k := by decide)
    (hg : Gl X x := by rfl) (hdb : (x == ("__debug__" : Str)) = false := by decide) (he : starEach (e :: es) X.env = (false, eval e X.env) :: starEach es X.env := by rfl) (hpl : (backTo pos (starEach es X.env)).any (·.1) = false := by rfl) : PE X (.Call (.Name x p) (e :: es) [] pos) (FE X.K (fCall np l F0)) :=
  let ⟨f, fd, hm, hk, hb, F⟩ := o
  fe_call F (hr.mono hjk) hm hk hb ha hg hdb he hpl
theorem fe_callO0 {F0 : List D → Option (D × Bool)} (o : Ow X.prog X.w X.K X.mg X.base j x ps (sp0 X.K np F0)) (hr : Room k X.A) (hjk : j ≤ k := by decide)
    (hg : Gl X x := by rfl) (hdb : (x == ("__debug__" : Str)) = false := by decide) : PE X (.Call (.Name x p) [] [] pos) (FE X.K (fCall np lNil F0)) :=
  let ⟨f, fd, hm, hk, hb, F⟩ := o
  fe_call0 F (hr.mono hjk) hm hk hb hg hdb
theorem fe_callWO {l : Lv} {i : Nat} {F0 : D → List D → Option (D × Bool × D)} (o : Ow X.prog X.w X.K X.mg X.base j x ps (spW X.K np F0)) (hr : Room k X.A) (hw : PE X e (tVar i)) (ha : PA X es (FL X.K l)) (hjk : j ≤ k := by decide)
    (hg : Gl X x := by rfl) (hdb : (x == ("__debug__" : Str)) = false := by decide) (he : starEach (e :: es) X.env = (false, eval e X.env) :: starEach es X.env := by rfl) (hpl : (backTo pos (starEach es X.env)).any (·.1) = false := by rfl) : PE X (.Call (.Name x p) (e :: es) [] pos) (FE X.K (fCallW np i l F0)) :=
  let ⟨f, fd, hm, hk, hb, F⟩ := o
  fe_callW F (hr.mono hjk) hm hk hb hw ha hg hdb he hpl
end
theorem fv_globS {X : Cx} {x z : Str} {pos : Pos} (h : ∃ t, X.mg x = some (.str z t)) (hg : Gl X x := by rfl) (hd : (x == ("__debug__" : Str)) = false := by decide) : PE X (.Name x pos) (FV X.K (fC (.str z))) :=
  let ⟨t, hm⟩ := h
  fv_glob (v := .str z) hm ⟨t, rfl⟩ (fun _ => .str _) hg hd
theorem fs_ornil {X : Cx} : PSs X [] (FS X.K sNx) := fs_nil
end Fx
/-! Fx13: tests that compare. -/
namespace Fx
open PySem PySem.Spec L2
section
variable {X : Cx} {K : PySem.W.Frag} {a b c e : Expr} {pos pos' : Pos}
theorem tb_of {f : Ev} {σ : St} {H : Hp} {Q : Bool → Hp → Prop} (h : FT K (tB1 f) σ H Q) : FE K f σ H fun v H1 => ∃ c, v = .bl c ∧ Q c H1 := by
  obtain ⟨G, en, c, en', S, e1, k⟩ := h
  obtain ⟨⟨d, b, en1⟩, p1, e2⟩ := Option.bind_eq_some_iff.mp e1
  cases d <;> first | (cases e2; done) | skip
  rename_i c'
  cases e2
  exact ⟨G, en, _, b, _, S, p1, fun v G' H' T r => ⟨c, res_bool (G := G) (H := H) r, k G' H' T⟩⟩
theorem ft_cmp {op : CmpOp} {r : R2} {p q : Ov} {g : D → D → Option (D × Bool)} (o : Op2 X.K r g) (ho : OpR X (compareOp op) r) (ha : PE X a (FO X.K p)) (hb : PE X b (FO X.K q)) (hm : behindInMarks op b = false) : PT X (.Compare a [op] [b] pos) (FT X.K (tB1 (f2 p q g))) :=
  pt_imp (pt_cmpR ho ha hb hm) fun _ _ _ h => t2_of o (tb_of h)
theorem ft_isN {p : Ov} {j} (ha : PE X a (FO X.K p)) : PT X (.Compare a [.Is] [.Constant .none j pos'] pos) (FT X.K (tB1 (fIs p isND))) :=
  pt_imp (pt_cmpR op_isN ha pe_non rfl) fun _ _ _ h => t2c_of (fun x d G H Q u q => ⟨rfl, by rw [use_non u]; exact q⟩) (tb_of h)
theorem ft_notN {p : Ov} {j} (ha : PE X a (FO X.K p)) : PT X (.Compare a [.IsNot] [.Constant .none j pos'] pos) (FT X.K (tB1 (fIs p fun d => !isND d))) :=
  pt_imp (pt_cmpR op_notN ha pe_non rfl) fun _ _ _ h => t2c_of (fun x d G H Q u q => ⟨rfl, by rw [use_non u]; exact q⟩) (tb_of h)
theorem ft_isB {p : Ov} {c : Bool} {j} (ha : PE X a (FO X.K p)) : PT X (.Compare a [.Is] [.Constant (.bool c) j pos'] pos) (FT X.K (tB1 (fIs p (isBD c)))) :=
  pt_imp (pt_cmpR op_isB ha pe_bl rfl) fun _ _ _ h => t2c_of (fun x d G H Q u q => ⟨rfl, use_ty u, by rw [use_bl u]; exact q⟩) (tb_of h)
theorem ft_isNotB {p : Ov} {c : Bool} {j} (ha : PE X a (FO X.K p)) : PT X (.Compare a [.IsNot] [.Constant (.bool c) j pos'] pos) (FT X.K (tB1 (fIs p fun d => !isBD c d))) :=
  pt_imp (pt_cmpR op_isNotB ha pe_bl rfl) fun _ _ _ h => t2c_of (fun x d G H Q u q => ⟨rfl, use_ty u, by rw [use_bl u]; exact q⟩) (tb_of h)
theorem chain_of {r r' : R2} {p q w : Ov} {g g' : D → D → Option (D × Bool)} (o : Op2 K r g) (o' : Op2 K r' g') {σ : St} {H : Hp} {Q : VK} (h : FE K (fChain p q g g' w) σ H Q) : tChain r r' (FO K p) (FO K q) (FO K w) σ H Q := by
  obtain ⟨G, en, z, zb, en', S, e1, k⟩ := h
  obtain ⟨⟨x, en1⟩, p1, e2⟩ := Option.bind_eq_some_iff.mp e1
  obtain ⟨⟨y, en2⟩, p2, e3⟩ := Option.bind_eq_some_iff.mp e2
  obtain ⟨d, p3, e4⟩ := Option.bind_eq_some_iff.mp e3
  obtain ⟨e, p4, e5⟩ := Option.bind_eq_some_iff.mp e4
  obtain ⟨⟨z1, b1⟩, p5, e6⟩ := Option.bind_eq_some_iff.mp e5
  refine ⟨G, en, x, en1, S, p1, fun v G1 H1 T1 r1 => ⟨G1, en1, y, en2, T1.sr, p2, fun u G2 H2 T2 r2 => ?_⟩⟩
  cases b1 with
  | true => cases z1 <;> cases e6
  | false =>
    cases z1 <;> first | (cases e6; done) | skip
    rename_i c1
    have T12 := T1.trans T2
    refine o v u d e _ _ G2 H2 _ T2.sr.sub ((r1.step T2).use T2.sr p3) (r2.use T2.sr p4) p5 fun v3 G3 H3 N F => ?_
    have T3 := N.step T2.sr
    refine ⟨c1, res_bool (G := G) (H := H2) F, ?_⟩
    cases c1 with
    | false =>
      cases e6
      exact iteF (k _ G3 H3 (T12.trans T3) (Rep.bl false))
    | true =>
      obtain ⟨⟨u1, en4⟩, q1, f2⟩ := Option.bind_eq_some_iff.mp (show ((w en2).bind fun u => (y.late u.2).bind fun e => (u.1.late u.2).bind fun e' => (g' e e').map fun z => (z.1, z.2, u.2)) = some (z, zb, en') from e6)
      obtain ⟨e8, q2, f3⟩ := Option.bind_eq_some_iff.mp f2
      obtain ⟨e9, q3, f4⟩ := Option.bind_eq_some_iff.mp f3
      obtain ⟨⟨z', b'⟩, p7, e10⟩ := Option.map_eq_some_iff.mp f4
      cases e10
      refine iteT ⟨G3, en2, u1, en4, T3.sr, q1, fun v4 G4 H4 T4 r4 => ?_⟩
      have T := (T12.trans T3).trans T4
      exact o' u v4 e8 e9 _ _ G4 H4 Q T4.sr.sub (((r2.step T3).step T4).use T4.sr q2) (r4.use T4.sr q3) p7 fun v G' H' N F => k v G' H' (T.trans (N.step T4.sr)) (F.res' T)
theorem ft_chain {op op' : CmpOp} {r r' : R2} {p q w : Ov} {g g' : D → D → Option (D × Bool)} (o : Op2 X.K r g) (o' : Op2 X.K r' g') (ho : OpR X (compareOp op) r) (ho' : OpR X (compareOp op') r') (ha : PE X a (FO X.K p)) (hb : PE X b (FO X.K q)) (hc : PE X c (FO X.K w))
    (hp : PT X (.Compare a [op, op'] [b, c] pos) (tTest (tChain r r' (FO X.K p) (FO X.K q) (FO X.K w)))) : PT X (.Compare a [op, op'] [b, c] pos) (FT X.K (tB1 (fChain p q g g' w))) :=
  pt_imp hp fun _ _ _ h => chain_of o o' (tb_of h)
def tIfF (c f g : Tv) : Tv := fun en => (c en).bind fun x => if x.1 = true then f x.2 else g x.2
theorem ft_if {t f g : Tv} (hc : PT X c (FT X.K t)) (ha : PT X a (FT X.K f)) (hb : PT X b (FT X.K g)) : PT X (.IfExp c a b pos) (FT X.K (tIfF t f g)) := by
  refine ⟨fun pins s σ H Q I ⟨G, en, d, en', S, e1, k⟩ => ?_⟩
  obtain ⟨⟨z, en1⟩, p1, e2⟩ := Option.bind_eq_some_iff.mp e1
  refine PyProof.Rows.isTrue_IfExp (thn (hc.run pins s σ H (fun z' H1 => z' = z ∧ ∃ G1, Step X.K en en1 σ G H G1 H1) I ⟨G, en, z, en1, S, p1, fun G1 H1 T => ⟨rfl, G1, T⟩⟩) fun d s1 ⟨H1, I1, ez, G1, T⟩ => ?_)
  subst ez
  cases d with
  | true => exact ha.run pins s1 σ H1 _ I1 ⟨G1, en1, _, en', T.sr, e2, fun G2 H2 T2 => k G2 H2 (T.trans T2)⟩
  | false => exact hb.run pins s1 σ H1 _ I1 ⟨G1, en1, _, en', T.sr, e2, fun G2 H2 T2 => k G2 H2 (T.trans T2)⟩
def blkB (N : List Str) (sc scope : Scope) (own : List (Str × Nat)) : Bool :=
  decide (scope.kind = .function) && (scope.names.all fun y => decide (scope.names.lookup y.1 = some y.2)) && (own.all fun p => decide (N[p.2]? = some p.1)) &&
  (scope.names.all fun y => !decide (y.2 = .free) || (decide (sc.names.lookup y.1 = some .cell) || decide (sc.names.lookup y.1 = some .free))) &&
  scope.names.all fun y => !(decide (y.2 = .local) || decide (y.2 = .cell)) || (decide (y.1 ∈ own.map (·.1)) || !decide (y.1 ∈ N))
theorem blkOf {N : List Str} {sc scope : Scope} {own : List (Str × Nat)} (h : blkB N sc scope own = true) : BlkOk N sc scope own := by
  unfold blkB at h
  simp only [Bool.and_eq_true, List.all_eq_true, decide_eq_true_eq, Bool.or_eq_true, Bool.not_eq_true', decide_eq_false_iff_not] at h
  obtain ⟨⟨⟨⟨h1, h2⟩, h3⟩, h4⟩, h5⟩ := h
  refine ⟨h1, h2, h3, fun y hy e => (h4 y hy).resolve_left fun n => n e, fun y hy e => (h5 y hy).resolve_left fun n => ?_⟩
  rw [Bool.or_eq_false_iff, decide_eq_false_iff_not, decide_eq_false_iff_not] at n
  exact e.elim n.1 n.2
end
end Fx
namespace Fx
open PySem PySem.Spec L2
theorem reps_ints {K : PySem.W.Frag} {G : Hp} : ∀ ns : List Int, Reps K G (ns.map V.int) (ns.map PyData.int)
  | [] => .nil
  | i :: r => .cons (.int i) (reps_ints r)
end Fx
/-! Fx15: dict.get, list.extend. -/
namespace Fx
open PySem PySem.Spec L2
section
variable {X : Cx} {K : PySem.W.Frag}
def rDGet : V → List V → Hp → VK → Prop := fun x xs H Q => ∃ (a : Addr) (y : V) (o : Option V), x = .ref a ∧ DGet H a y o ∧ ((xs = [y] ∧ Q (o.getD .non) H) ∨ ∃ d, xs = [y, d] ∧ Q (o.getD d) H)
theorem mt_dget (hu : X.A.units + 1 < cLine) : MtR X "dict.get" rDGet := by
  intro pins s σ H x xs v us Q I rx rxs ⟨a, y, o, e, g, h⟩
  subst e
  cases rx
  rcases h with ⟨e, q⟩ | ⟨d, e, q⟩
  · subst e
    obtain ⟨u, rfl, ry⟩ := Vals.one rxs
    exact d_get1 hu I g ry fun w' s' I' r' => ⟨_, H, I', r', q⟩
  · subst e
    obtain ⟨u, u2, rfl, ry, rd⟩ := rxs.two
    exact d_get2 hu I g ry rd fun w' s' I' r' => ⟨_, H, I', r', q⟩
def plainD : D → Bool
  | .list _ => false
  | .dict _ => false
  | _ => true
theorem use_plain {G H : Hp} {v : V} {d : D} (u : Use K G H v d) (h : plainD d = true) : Rep K G v d := by
  rcases u with u | ⟨a, o, e, h1, r⟩
  · exact u
  · cases r <;> cases h
def dGetM : D → List D → Option (D × Bool)
  | .dict es, [k] => (keyOf k).map fun k => ((Fx.dictGet es k).getD .none, false)
  | .dict es, [k, d] => (keyOf k).bind fun k => match Fx.dictGet es k with
    | some z => some (z, false)
    | none => if plainD d = true then some (d, false) else none
  | _, _ => none
theorem or_dget : OpMR K rDGet dGetM := fun x d xs ds z b G H Q s u us hg k => by
  unfold dGetM at hg
  split at hg
  · obtain ⟨kk, h1, h2⟩ := Option.map_eq_some_iff.mp hg
    cases h2
    obtain ⟨a, kvs, rfl, h, r⟩ := u.dict s
    obtain ⟨y, rfl, uy⟩ := us.one
    have e := keyV uy h1
    subst e
    refine ⟨a, _, _, rfl, dget_of h, .inl ⟨rfl, ?_⟩⟩
    rcases r.get kk with ⟨w1, w2⟩ | ⟨v, d, w1, w2, w3⟩
    · rw [w1]
      exact k _ G H (New.refl s) (Fresh.sh (by rw [w2]; exact .non))
    · rw [w1]
      exact k _ G H (New.refl s) (Fresh.sh (by rw [w2]; exact w3))
  · obtain ⟨kk, h1, h2⟩ := Option.bind_eq_some_iff.mp hg
    obtain ⟨a, kvs, rfl, h, r⟩ := u.dict s
    obtain ⟨y, y2, rfl, uy, uy2⟩ := us.two
    have e := keyV uy h1
    subst e
    refine ⟨a, _, _, rfl, dget_of h, .inr ⟨y2, rfl, ?_⟩⟩
    rcases r.get kk with ⟨w1, w2⟩ | ⟨v, d, w1, w2, w3⟩
    · rw [w2] at h2
      dsimp only at h2
      obtain ⟨hp, h3⟩ := ite_some h2
      cases h3
      rw [w1]
      exact k _ G H (New.refl s) (Fresh.sh (use_plain uy2 hp))
    · rw [w2] at h2
      cases h2
      rw [w1]
      exact k _ G H (New.refl s) (Fresh.sh w3)
  · cases hg
/-! ### xs.extend(ys), of a list or a tuple -/
def rExtG (K : PySem.W.Frag) : V → List V → Hp → VK → Prop := fun x vs H Q => ∃ l b xs zs, x = .ref l ∧ vs = [.ref b] ∧ H l = some (.lst xs) ∧ (SqL K H b zs ∨ SqT K H b zs) ∧ xs.length + zs.length ≤ sizeLine ∧ Q .non (upd H l (.lst (xs ++ zs)))
theorem ext_seq {prog : Program} {w : World} {A : Around} {E : Value → Shared → Prop} {s : Shared} {S it : Addr} {T : String} {o : Obj} {xs items : Array Value} {n c : Nat} {P : PySem.Fin → Shared → Prop} (hT : T = "list" ∨ T = "tuple")
    (hS : s.heap.get? S = some { cls := .type "list", data := .seq xs c }) (ho : s.heap.get? it = some o) (hc : o.cls = .type T) (hd : o.data = .seq items n) (hsz : xs.size + items.size ≤ sizeLine)
    (hR : P (.done (.ret .none)) { s with heap := s.heap.update S (Obj.mapSeq (· ++ items)) }) : wpAny (model prog w) A (Builtin.List.listExtendWith (.ref S) (.ref it) .none) P E s := by
  unfold Builtin.List.listExtendWith
  refine wpAny_bind (wpAny_typeOf ⟨o, ho, hc⟩ ?_)
  have h1 : (Builtin.List.listSameRef (.ref S) (.ref it) || Value.type T == Value.type "list" || Value.type T == Value.type "tuple") = true := by
    rcases hT with rfl | rfl <;> simp
  simp only [h1, if_true]
  refine wpAny_bind ?_
  unfold Builtin.List.listItems
  refine wpAny_bind (wpAny_seqItems ho hd (wpAny_pure ?_))
  refine wpAny_bind ?_
  refine wpAny_bind (wpAny_seqItems hS rfl (wpAny_pure ?_))
  have hlong : ¬ (!xs.isEmpty && Builtin.List.listTooLong (xs.size + items.size)) = true := by
    rw [notLongL hsz, Bool.and_false]
    exact Bool.false_ne_true
  rw [if_neg hlong]
  show wpAny _ A (updateSeq S (· ++ items) >>= fun _ => ret .none) _ _ s
  refine wpAny_bind (wpAny_updateSeq hS rfl ?_)
  exact wpAny_pure hR
theorem mt_ext : MtR X "list.extend" (rExtG X.K) := by
  intro pins s σ H x vs v us Q I rx rv ⟨l, b, xs, zs, e1, e2, hH, hB, hz, q⟩
  subst e1
  subst e2
  cases rx
  obtain ⟨u, rfl, ru⟩ := Vals.one rv
  cases ru
  obtain ⟨z, its, n, r, hl, e⟩ := I.lstM hH
  have go : ∀ {T : String} {o : Obj} {its2 : List Value} {n2 : Nat}, (T = "list" ∨ T = "tuple") → Vals zs its2 → s.heap.get? b = some o → o.cls = .type T → o.data = .seq its2.toArray n2 → wpAny (model X.prog X.w) X.A (call (.builtin "list.extend") [.ref l, .ref b]) (EP X pins σ Q) X.xe s := by
    intro T o its2 n2 hT r2 ho hc hd
    have hl2 := r2.length
    refine PySem.wpAny_call_entry PySem.F.slot_list_extend ⟨_, e, rfl⟩ PySem.F.entry_list_extend ?_ (PySem.F.args_list_extend_2 _ _)
    refine ext_seq hT e ho hc hd (by rw [List.size_toArray, List.size_toArray]; omega) ⟨.none, rfl, .non, _, I.lset (its' := its ++ its2) hH e (by simp) (r.append r2) ?_, rfl, q⟩
    rw [List.length_append]
    omega
  rcases hB with hB | hB
  · obtain ⟨its2, r2, ⟨o, n2, ho, hc, hd, hh⟩, _⟩ := I.list hB
    exact go (.inl rfl) r2 ho hc hh
  · obtain ⟨its2, r2, ⟨o, ho, hc, n2, hd⟩, _⟩ := I.tuple hB
    exact go (.inr rfl) r2 ho hc hd
def mExtG : D → List D → Option (D × Bool × D)
  | .list ds, [.list es] => if ds.length + es.length ≤ sizeLine then some (.none, false, .list (ds ++ es)) else none
  | .list ds, [.tuple es] => if ds.length + es.length ≤ sizeLine then some (.none, false, .list (ds ++ es)) else none
  | _, _ => none
theorem om_ext : OpM K (rExtG K) mExtG := fun l o d xs ds z b d' G H Q s g h r rs e k => by
  unfold mExtG at e
  split at e
  · obtain ⟨hl, e⟩ := ite_some e
    cases e
    cases r with
    | lst q =>
      cases rs with
      | cons r1 r2 =>
        cases r2
        obtain ⟨a, ys, rfl, ha, ry⟩ := Use.list s (.inl r1)
        exact ⟨l, a, _, _, rfl, rfl, h, .inl ha, by rw [q.length, ry.length]; exact hl, opM_upd s g h (.lst (q.append ry)) .non k⟩
  · obtain ⟨hl, e⟩ := ite_some e
    cases e
    cases r with
    | lst q =>
      cases rs with
      | cons r1 r2 =>
        cases r2
        obtain ⟨a, ys, rfl, ha, ry⟩ := Use.tuple s (.inl r1)
        exact ⟨l, a, _, _, rfl, rfl, h, .inr ha, by rw [q.length, ry.length]; exact hl, opM_upd s g h (.lst (q.append ry)) .non k⟩
  · cases e
end
end Fx
/-! Fx16: tuple(range(..)). -/
namespace Fx
open PySem PySem.Spec L2
section
variable {X : Cx} {K : PySem.W.Frag} {a b e : Expr} {pos p : Pos}
def tTupRgZ (te : St → Hp → (Int → Int → Hp → Prop) → Prop) : TE := fun σ H Q => te σ H fun a b H1 => RgOk a b ∧ ∀ q o, H1 q = none → o.dict = none → Q (.ref q) (upd H1 q (.frz o (.tup (rgV a b))))
open PyProof.Rows in
theorem pe_tupRgZ {te : L2.St → Hp → (Int → Int → Hp → Prop) → Prop} (hc : X.calm = true) (hg : Gl X "tuple") (hm : X.mg "tuple" = none) (he : PRg X e te) (na : starEach [e] X.env = (false, eval e X.env) :: starEach [] X.env := by rfl) : PE X (.Call (.Name "tuple" p) [e] [] pos) (tTupRgZ te) := by
  refine ⟨fun pins s σ H Q I h => ?_⟩
  refine Call_ (ld_blt I hg hm boot_tuple (PyProof.Rows.callWith_type1 (args_cons (thn (he pins s σ H _ I h) fun x s1 ⟨r, a, b, t, u, v, H1, ex, hr, I1, ok, q⟩ => args_nil ?_) na) na))
  subst ex
  obtain ⟨b1, b2, b3, b4, b5⟩ := ok
  refine call_tuple_range (n := (b - a).toNat) (I1.ok.hd hc) hr (small_one b1 b2 b3 b4) (rangeSize_nat a b) b5 fun h' tk acc hk hi => ?_
  have I2 : Inv X pins σ H1 { s1 with heap := h', toks := tk } := I1.kept hk
  refine ⟨.ref h'.objs.size, upd H1 h'.objs.size (.frz { cls := .type "tuple", data := .seq acc } (.tup (rgV a b))), I2.laid (t' := tk) (fun c o e => Heap.get?_push_of_some _ e) (Nat.le_refl _) ⟨Heap.get?_push_size _ rfl, ?_, acc.toList, vals_rg hi, ?_⟩, rfl, q _ _ (I2.hok.fresh (Nat.le_refl _)) rfl⟩
  · rw [rgV_length, sizeLine_eq]; omega
  · rw [Array.toArray_toList]; exact PyProof.Rows.IsTup.new _ _
def fTr1 (f : Vv) : Vv := fun en => (f en).bind fun x => match x.1 with
  | .int j => if rgOk 0 j = true then some (.tuple (rgD 0 j), x.2) else none
  | _ => none
theorem fv_tr1 {f : Vv} {p1 p2 : Pos} (hc : X.calm = true) (hm1 : X.mg "tuple" = none) (hm2 : X.mg "range" = none) (ha : PE X a (FV X.K f)) (hg1 : Gl X "tuple" := by rfl) (hg2 : Gl X "range" := by rfl) (n1 : starEach [a] X.env = (false, eval a X.env) :: starEach [] X.env := by rfl)
    (n2 : starEach [.Call (.Name "range" p2) [a] [] pos] X.env = (false, eval (.Call (.Name "range" p2) [a] [] pos) X.env) :: starEach [] X.env := by rfl) : PE X (.Call (.Name "tuple" p1) [.Call (.Name "range" p2) [a] [] pos] [] p) (FV X.K (fTr1 f)) :=
  pe_imp (pe_tupRgZ hc hg1 hm1 (prg_1 hg2 hm2 ha n1) n2) fun σ H Q ⟨G, en, d, en', S, e1, k⟩ => by
    obtain ⟨⟨x, en1⟩, p1, e2⟩ := Option.bind_eq_some_iff.mp e1
    refine ⟨G, en, x, en1, S, p1, fun v G1 H1 T r => ?_⟩
    dsimp only at e2
    split at e2
    · rename_i j
      obtain ⟨ok, e3⟩ := ite_some e2
      cases e3
      cases r
      refine ⟨_, rfl, rgOk_of ok, fun q o hq ho => ?_⟩
      have N := New.shd (o := .frz o (.tup (rgV 0 j))) T.sr.sub hq
      exact k _ _ _ (T.trans (N.step T.sr)) (.tup (.inl ⟨o, upd_same, ho⟩) (reps_rg 0 j))
    · cases e2
end
end Fx
/-! Fx17: min, max of a list of data. -/
namespace Fx
open PySem PySem.Spec L2
theorem vals_back_at : ∀ {ys : List V} {us : List Value} {i : Nat} {v : Value}, Vals ys us → us[i]? = some v → ∃ x, ys[i]? = some x ∧ RelV x v
  | _, _, 0, _, .cons r _, h => by cases h; exact ⟨_, rfl, r⟩
  | _, _, i + 1, _, .cons _ t, h => vals_back_at (i := i) t h
theorem reads_at {h : Heap} : ∀ {us : List Value} {ds : List D} {as : List Addr} {i : Nat} {v : Value}, ReadsAll h us ds as → us[i]? = some v → ∃ d bs, ds[i]? = some d ∧ Reads h v d bs
  | _, _, _, 0, _, .cons r _, e => by cases e; exact ⟨_, _, rfl, r⟩
  | _, _, _, i + 1, _, .cons _ t, e => reads_at (i := i) t e
def rPickD (K : PySem.W.Frag) (A : Around) (pick : D → List D → D) : List V → Hp → VK → Prop := fun vs H Q => ∃ (a : Addr) (ys : List V) (d : D) (ds : List D), vs = [.ref a] ∧ SqL K H a ys ∧ DpAll K H ys (d :: ds) ∧ PySem.W.AlikeAll (d :: ds) ∧ A.units + 1 + PyData.depthAll (d :: ds) < cLine ∧
  ∀ (i : Nat) (x : V), ys[i]? = some x → (d :: ds)[i]? = some (pick d ds) → Q x H
section
variable {X : Cx}
theorem cr_minD (hc : X.calm = true) : CallR X (.builtin "min") (rPickD X.K X.A PySem.W.minD) := by
  intro pins s σ H vs us Q I r ⟨a, ys, d, ds, e, hs, dp, al, hu, q⟩
  subst e
  obtain ⟨u, rfl, rx⟩ := Vals.one r
  cases rx
  obtain ⟨its, rv, pl, hz⟩ := I.list hs
  obtain ⟨as, ra⟩ := Dp.readsAll I (d :: ds) ys its dp rv
  refine PySem.W.min_list_data (I.ok.hd hc) pl.isList (by simpa using ra) al hu fun i v h' tk bs hv rd hk => ?_
  obtain ⟨x, e1, e2⟩ := vals_back_at rv (by simpa using hv)
  obtain ⟨z, cs, e3, e4⟩ := reads_at ra (by simpa using hv)
  have e5 := (PyProof.Rows.Reads.keeps hk e4).unique _ _ rd
  exact ⟨x, H, I.kept hk, e2, q i x e1 (by rw [e3, e5.1])⟩
theorem cr_maxD (hc : X.calm = true) : CallR X (.builtin "max") (rPickD X.K X.A PySem.W.maxD) := by
  intro pins s σ H vs us Q I r ⟨a, ys, d, ds, e, hs, dp, al, hu, q⟩
  subst e
  obtain ⟨u, rfl, rx⟩ := Vals.one r
  cases rx
  obtain ⟨its, rv, pl, hz⟩ := I.list hs
  obtain ⟨as, ra⟩ := Dp.readsAll I (d :: ds) ys its dp rv
  refine PySem.W.max_list_data (I.ok.hd hc) pl.isList (by simpa using ra) al hu fun i v h' tk bs hv rd hk => ?_
  obtain ⟨x, e1, e2⟩ := vals_back_at rv (by simpa using hv)
  obtain ⟨z, cs, e3, e4⟩ := reads_at ra (by simpa using hv)
  have e5 := (PyProof.Rows.Reads.keeps hk e4).unique _ _ rd
  exact ⟨x, H, I.kept hk, e2, q i x e1 (by rw [e3, e5.1])⟩
theorem depth_all : ∀ {ds : List D}, (∀ d ∈ ds, d.depth < 40) → PyData.depthAll ds < 41
  | [], _ => by show 0 < 41; omega
  | d :: ds, h => by
    have h1 := h d (List.mem_cons_self ..)
    have h2 := depth_all fun x hx => h x (List.mem_cons_of_mem _ hx)
    show max _ _ < 41
    omega
def pickOk (ds : List D) : Bool := (ds.all fun d => ds.all fun e => PySem.W.alike d e) && (ds.all fun d => !isND d) && layOk ds && ds.all fun d => decide (d.depth < 40)
def dPick (pick : D → List D → D) : List D → Option (D × Bool)
  | [.list (d :: ds)] => if pickOk (d :: ds) = true then some (pick d ds, false) else none
  | _ => none
theorem on_pick {K : PySem.W.Frag} {A : Around} (hu : A.units + 64 < cLine) (pick : D → List D → D) : OpN K (rPickD K A pick) (dPick pick) := fun vs ds z b G H Q s u hg k => by
  unfold dPick at hg
  split at hg
  · rename_i d ds
    obtain ⟨ok, h2⟩ := ite_some hg
    cases h2
    unfold pickOk at ok
    rw [Bool.and_eq_true, Bool.and_eq_true, Bool.and_eq_true] at ok
    obtain ⟨⟨⟨o1, o2⟩, o3⟩, o4⟩ := ok
    obtain ⟨v, rfl, u0⟩ := u.one
    obtain ⟨a, xs, rfl, h, r⟩ := u0.list s
    refine ⟨a, xs, d, ds, rfl, h, reps_dp s r fun x hx => List.all_eq_true.mp o3 x hx, ⟨fun x hx y hy => List.all_eq_true.mp (List.all_eq_true.mp o1 x hx) y hy, fun x hx e => ?_⟩, ?_, fun i x e1 e2 => ?_⟩
    · have := List.all_eq_true.mp o2 x hx
      rw [e] at this
      cases this
    · have := depth_all fun x hx => of_decide_eq_true (List.all_eq_true.mp o4 x hx)
      omega
    · obtain ⟨w, w1, w2⟩ := r.get e1
      rw [e2] at w1
      cases w1
      exact k _ G H (New.refl s) (Fresh.sh w2)
  · cases hg
end
end Fx
/-! Fx18: comprehensions with two for. -/
namespace Fx
open PySem PySem.Spec L2
def lcO (vs vs1 : List Nat) (s : Gv) (t : Tv) (it1 : Lv) (s1 : Gv) (t1 : Tv) (f : Vv) : List D → En → Option (List D × En)
  | [], en => some ([], en)
  | d :: ds, en => (s d (wipeE en vs)).bind fun e1 => (t e1).bind fun x => if x.1 = true then (it1 x.2).bind fun z => (lcL vs1 s1 t1 f z.1 (wipeE z.2 vs1)).bind fun y => (lcO vs vs1 s t it1 s1 t1 f ds (wipeE y.2 vs)).map fun r => (y.1 ++ r.1, r.2) else lcO vs vs1 s t it1 s1 t1 f ds (wipeE x.2 vs)
def fLc2 (vs vs1 : List Nat) (it : Lv) (s : Gv) (t : Tv) (it1 : Lv) (s1 : Gv) (t1 : Tv) (f : Vv) : Ev := fun en => (it en).bind fun x => (lcO vs vs1 s t it1 s1 t1 f x.1 (wipeE x.2 vs)).bind fun y => if y.1.length ≤ sizeLine then some (.list y.1, true, backE x.2 y.2 vs) else none
section
variable {X : Cx} {e : Expr} {pos : Pos}
theorem wipe_in {σ : St} {vs us : List Nat} (h : ∀ i ∈ us, i ∈ vs) : wipe (wipe σ us) vs = wipe σ vs := by
  apply List.ext_getElem?
  intro i
  by_cases hi : i ∈ vs
  · by_cases hn : i < σ.length
    · rw [wipe_on hi hn, wipe_on hi (by rw [wipe_length]; exact hn)]
    · rw [List.getElem?_eq_none (by rw [wipe_length, wipe_length]; omega), List.getElem?_eq_none (by rw [wipe_length]; omega)]
  · rw [wipe_off hi, wipe_off hi, wipe_off fun z => hi (h i z)]
theorem lc2_of {R R1 : Given} {K : PySem.W.Frag} {vs vs1 ts ts1 : List Nat} {it it1 : Lv} {s s1 : Gv} {t t1 : Tv} {f : Vv} (hts : ∀ i ∈ ts, i ∈ vs) (hts1 : ∀ i ∈ ts1, i ∈ vs1) (hv : ∀ i ∈ vs1, i ∈ vs) {σ : St} {H : Hp} {Q : VK} (h : FE K (fLc2 vs vs1 it s t it1 s1 t1 f) σ H Q) : tLc2 (FI R K it) (FG R K ts s) (FT K t) (FI R1 K it1) (FG R1 K ts1 s1) (FT K t1) (FV K f) vs vs1 σ H Q := by
  obtain ⟨G, en, z, zb, en', S, e1, k⟩ := h
  obtain ⟨⟨ds, en1⟩, p1, e2⟩ := Option.bind_eq_some_iff.mp e1
  obtain ⟨⟨rs, en2⟩, p2, e3⟩ := Option.bind_eq_some_iff.mp e2
  obtain ⟨hz, e4⟩ := ite_some e3
  cases e4
  refine ⟨G, en, ds, en1, S, p1, fun J G1 H1 T1 hJ D hD => ?_⟩
  have S1 := T1.sr
  have nobD : ∀ {e : En} {σ' : St}, (∀ b, OwnA e σ' b → OwnA (wipeE en1 vs) (wipe σ vs) b) → ¬ OwnA e σ' D := fun {e σ'} hh q => by
    obtain ⟨o, ho, _⟩ := S1.there (own_wipe (hh D q))
    rw [hD] at ho
    cases ho
  -- names of a block are forgotten
  have fin : ∀ {us : List Nat} {σ4 τ : St} {e6 : En} {G6 H6 : Hp}, (∀ i ∈ us, i ∈ vs) → wipe σ4 us = τ → StepG K (wipeE en1 vs) (wipe σ vs) G1 H1 e6 σ4 G6 H6 → StepG K (wipeE en1 vs) (wipe σ vs) G1 H1 (wipeE e6 us) τ G6 H6 := fun {us σ4 τ e6 G6 H6} hu ww T => by
    have W := T.sr.wipe (vs := us)
    rw [ww] at W
    refine ⟨T.ext, W, fun b q => ?_, fun i d q => ?_⟩
    · rw [← ww] at q
      exact T.own b (own_wipe q)
    · obtain ⟨⟨d', e'⟩, s'⟩ := T.lent i d q
      have ni : i ∉ us := fun z => (wipeE_at q).2 (hu i z)
      exact ⟨⟨d', by rw [wipeE_off ni]; exact e'⟩, by rw [← ww, wipe_off ni]; exact s'⟩
  refine ⟨fun i m H' => ∃ G' e' accV acc rest, StepG K (wipeE en1 vs) (wipe σ vs) G1 H1 e' (wipe σ vs) G' H' ∧ wipeE e' vs = e' ∧ G' D = none ∧ H' D = some (.lst accV) ∧ Reps K G' accV acc ∧ m = ds.length - i ∧ lcO vs vs1 s t it1 s1 t1 f (ds.drop i) e' = some (rest, en2) ∧ rs = acc ++ rest, ⟨ds.length, G1, _, [], [], rs, ?_, wipeE_wipeE, S1.sub.free hD, upd_same, .nil, rfl, p2, rfl⟩, ?_⟩
  · have N := New.own (o := .lst []) S1.sub hD
    exact step_g (N.step S1.wipe)
  rintro i m H2 ⟨G2, e2, accV, acc, rest, T2, w2, gD, hD2, ra, rfl, pl, er⟩
  have nD2 := nobD T2.own
  have gg : Same G1 G2 := T2.ext.g
  obtain ⟨j1, j2⟩ := hJ i G2 H2 gg T2.sr.sub
  by_cases hi : i < ds.length
  · rw [List.drop_eq_getElem_cons hi] at pl
    obtain ⟨e3, q3, pl⟩ := Option.bind_eq_some_iff.mp pl
    obtain ⟨⟨c, e4⟩, q4, pl⟩ := Option.bind_eq_some_iff.mp pl
    rw [w2] at q3
    obtain ⟨j3, j4⟩ := j2 ds[i] (List.getElem?_eq_getElem hi)
    refine .inr ⟨j3, fun H' => ∃ G' e' accV acc rest, StepG K (wipeE en1 vs) (wipe σ vs) G1 H1 e' (wipe σ vs) G' H' ∧ wipeE e' vs = e' ∧ G' D = none ∧ H' D = some (.lst accV) ∧ Reps K G' accV acc ∧ lcO vs vs1 s t it1 s1 t1 f (ds.drop (i + 1)) e' = some (rest, en2) ∧ rs = acc ++ rest,
      fun H' ⟨G', e', aV, a, r, h1, h2, h3, h4, h5, h6, h7⟩ => ⟨ds.length - (i + 1), by omega, G', e', aV, a, r, h1, h2, h3, h4, h5, rfl, h6, h7⟩, fun x H3 hy => ?_⟩
    obtain ⟨G3, N3, r3⟩ := j4 x H3 hy
    have T3 := T2.trans (step_g (N3.step T2.sr))
    have gD3 : G3 D = none := N3.ext.n D _ hD2 (fun z => z) gD
    have hD3 : H3 D = some (.lst accV) := N3.ext.h D _ hD2 fun z => z
    refine ⟨G3, e2, _, e3, T3.sr, r3, q3, fun σ4 G4 H4 T4 k4 => ?_⟩
    have hl4 : σ4.length = σ.length := k4.1.trans (wipe_length σ vs)
    have ww : wipe σ4 vs = wipe σ vs := wipe_wipe (K := K) hts hl4 k4.2
    refine ⟨ww, ?_⟩
    have T34 := T3.trans T4
    have nD4 := nobD T34.own
    have nD3 := nobD T3.own
    have gD4 : G4 D = none := T4.ext.n D _ hD3 nD3 gD3
    have hD4 : H4 D = some (.lst accV) := T4.ext.h D _ hD3 nD3
    refine ⟨G4, e3, c, e4, T4.sr, q4, fun G5 H5 T5 => ?_⟩
    have T35 := T34.trans (step_g T5)
    have nD5 := nobD T35.own
    have gD5 : G5 D = none := T5.ext.n D _ hD4 nD4 gD4
    have hD5 : H5 D = some (.lst accV) := T5.ext.h D _ hD4 nD4
    have ra5 := ra.mono ((N3.ext.g.trans T4.ext.g).trans T5.ext.g)
    have vv : ∀ i ∈ vs, i ∈ vs := fun _ z => z
    cases c with
    | false =>
      refine iteF ⟨G5, wipeE e4 vs, accV, acc, rest, fin vv ww T35, wipeE_wipeE, gD5, hD5, ra5, ?_, er⟩
      exact pl
    | true =>
      obtain ⟨⟨ds1, e6⟩, q6, pl⟩ := Option.bind_eq_some_iff.mp (show ((it1 e4).bind fun z => (lcL vs1 s1 t1 f z.1 (wipeE z.2 vs1)).bind fun y => (lcO vs vs1 s t it1 s1 t1 f (ds.drop (i + 1)) (wipeE y.2 vs)).map fun r => (y.1 ++ r.1, r.2)) = some (rest, en2) from pl)
      obtain ⟨⟨ys, e7⟩, q7, pl⟩ := Option.bind_eq_some_iff.mp pl
      obtain ⟨⟨rest', en3⟩, q8, pl⟩ := Option.map_eq_some_iff.mp pl
      cases pl
      refine iteT ⟨G5, e4, ds1, e6, T5.sr, q6, fun J1 G6 H6 T6 hJ1 => ?_⟩
      have T36 := T35.trans (step_g T6)
      have gD6 : G6 D = none := T6.ext.n D _ hD5 nD5 gD5
      have hD6 : H6 D = some (.lst accV) := T6.ext.h D _ hD5 nD5
      have ra6 := ra5.mono T6.ext.g
      -- the inner walk
      refine ⟨fun j m H' => ∃ G' e' aV a r, StepG K (wipeE en1 vs) (wipe σ vs) G1 H1 e' (wipe σ4 vs1) G' H' ∧ wipeE e' vs1 = e' ∧ Same G6 G' ∧ G' D = none ∧ H' D = some (.lst aV) ∧ Reps K G' aV a ∧ m = ds1.length - j ∧ lcL vs1 s1 t1 f (ds1.drop j) e' = some (r, e7) ∧ acc ++ ys = a ++ r,
        ⟨ds1.length, G6, _, accV, acc, ys, fin hv rfl T36, wipeE_wipeE, Same.refl _, gD6, hD6, ra6, rfl, q7, rfl⟩, ?_⟩
      rintro j m1 I2 ⟨L2, g2, bV, b, r2, U2, x2, gs, kD, kD2, rb, rfl, ql, fr⟩
      have mD2 := nobD U2.own
      obtain ⟨l1, l2⟩ := hJ1 j L2 I2 gs U2.sr.sub
      by_cases hj : j < ds1.length
      · rw [List.drop_eq_getElem_cons hj] at ql
        obtain ⟨g3, r3', ql⟩ := Option.bind_eq_some_iff.mp ql
        obtain ⟨⟨c2, g4⟩, r4, ql⟩ := Option.bind_eq_some_iff.mp ql
        rw [x2] at r3'
        obtain ⟨l3, l4⟩ := l2 ds1[j] (List.getElem?_eq_getElem hj)
        refine .inr ⟨l3, fun H' => ∃ G' e' aV a r, StepG K (wipeE en1 vs) (wipe σ vs) G1 H1 e' (wipe σ4 vs1) G' H' ∧ wipeE e' vs1 = e' ∧ Same G6 G' ∧ G' D = none ∧ H' D = some (.lst aV) ∧ Reps K G' aV a ∧ lcL vs1 s1 t1 f (ds1.drop (j + 1)) e' = some (r, e7) ∧ acc ++ ys = a ++ r,
          fun H' ⟨G', e', aV, a, r, h1, h2, h3, h4, h5, h6, h7, h8⟩ => ⟨ds1.length - (j + 1), by omega, G', e', aV, a, r, h1, h2, h3, h4, h5, h6, rfl, h7, h8⟩, fun y I3 hy1 => ?_⟩
        obtain ⟨L3, N4, r5⟩ := l4 y I3 hy1
        have U3 := U2.trans (step_g (N4.step U2.sr))
        have kD3 : L3 D = none := N4.ext.n D _ kD2 (fun z => z) kD
        have hkD3 : I3 D = some (.lst bV) := N4.ext.h D _ kD2 fun z => z
        refine ⟨L3, g2, _, g3, U3.sr, r5, r3', fun σ5 L4 I4 T7 k5 => ?_⟩
        have hl5 : σ5.length = σ4.length := k5.1.trans (wipe_length σ4 vs1)
        have ww1 : wipe σ5 vs1 = wipe σ4 vs1 := wipe_wipe (K := K) hts1 hl5 k5.2
        refine ⟨ww1, ?_⟩
        have U4 := U3.trans T7
        have mD3 := nobD U3.own
        have mD4 := nobD U4.own
        have kD4 : L4 D = none := T7.ext.n D _ hkD3 mD3 kD3
        have hkD4 : I4 D = some (.lst bV) := T7.ext.h D _ hkD3 mD3
        refine ⟨L4, g3, c2, g4, T7.sr, r4, fun L5 I5 T8 => ?_⟩
        have U5 := U4.trans (step_g T8)
        have mD5 := nobD U5.own
        have kD5 : L5 D = none := T8.ext.n D _ hkD4 mD4 kD4
        have hkD5 : I5 D = some (.lst bV) := T8.ext.h D _ hkD4 mD4
        have gs5 := gs.trans ((N4.ext.g.trans T7.ext.g).trans T8.ext.g)
        have rb5 := rb.mono ((N4.ext.g.trans T7.ext.g).trans T8.ext.g)
        cases c2 with
        | false =>
          refine iteF ⟨L5, wipeE g4 vs1, bV, b, r2, fin hv ww1 U5, wipeE_wipeE, gs5, kD5, hkD5, rb5, ?_, fr⟩
          exact ql
        | true =>
          obtain ⟨⟨w, g6⟩, q9, ql⟩ := Option.bind_eq_some_iff.mp (show ((f g4).bind fun y => (lcL vs1 s1 t1 f (ds1.drop (j + 1)) (wipeE y.2 vs1)).map fun r => (y.1 :: r.1, r.2)) = some (r2, e7) from ql)
          obtain ⟨⟨r2', g7⟩, q10, ql⟩ := Option.map_eq_some_iff.mp ql
          cases ql
          refine iteT ⟨L5, g4, w, g6, T8.sr, q9, fun wv L6 I6 T9 rw_ => ?_⟩
          have U6 := U5.trans (step_g T9)
          have kD6 : L6 D = none := T9.ext.n D _ hkD5 mD5 kD5
          have hkD6 : I6 D = some (.lst bV) := T9.ext.h D _ hkD5 mD5
          have rb6 := rb5.mono T9.ext.g
          have U7 := fin hv ww1 U6
          refine ⟨bV, hkD6, ?_, L6, wipeE g6 vs1, bV ++ [wv], b ++ [w], r2', ⟨U7.ext.nobody hD, U7.sr.nobody hkD6 kD6 (nobD U7.own), U7.own, U7.lent⟩, wipeE_wipeE, gs5.trans T9.ext.g, kD6, upd_same, rb6.append (.cons rw_ .nil), q10, by rw [fr, List.append_assoc]; rfl⟩
          have hz' : rs.length ≤ sizeLine := hz
          have h1 := rb.length
          have h2 : rs.length = acc.length + (ys.length + rest'.length) := by rw [er]; simp only [List.length_append]
          have h3 : acc.length + ys.length = b.length + (r2'.length + 1) := by
            have := congrArg List.length fr
            simp only [List.length_append, List.length_cons] at this
            exact this
          omega
      · rw [List.drop_eq_nil_of_le (by omega)] at ql
        cases ql
        refine .inl ⟨l1 (by omega), ?_⟩
        have er2 : acc ++ ys = b := by rw [fr, List.append_nil]
        have e8 : wipe (wipe σ4 vs1) vs = wipe σ vs := by rw [wipe_in hv, ww]
        exact ⟨L2, wipeE e7 vs, bV, b, rest', fin vv e8 U2, wipeE_wipeE, kD, kD2, rb, q8, by rw [er, ← List.append_assoc, er2]⟩
  · rw [List.drop_eq_nil_of_le (by omega)] at pl
    cases pl
    refine .inl ⟨j1 (by omega), ?_⟩
    have B := T2.back S1
    have er2 : rs = acc := by rw [er, List.append_nil]
    refine k _ G2 H2 (T1.trans B) (Res.new (.inl (T1.ext.t D hD)) (fun q => ?_) hD2 gD (.lst (er2 ▸ ra)))
    obtain ⟨o, ho, _⟩ := S1.there (B.own D q)
    rw [hD] at ho
    cases ho
theorem fe_lc2 {R R1 : Given} {elt tg iter tg1 iter1 : Expr} {ifs ifs1 : List Expr} {scope : Scope} {own : List (Str × Nat)} {vs1 ts ts1 : List Nat} {it it1 : Lv} {s s1 : Gv} {t t1 : Tv} {f : Vv} (hc : X.calm = true) (hN : X.N.Nodup) (hi : PI X tg iter (FI R X.K it)) (ok : BlkOk X.N X.env.scope scope own) (hv : ∀ i ∈ vs1, i ∈ own.map (·.2)) (hts : ∀ i ∈ ts, i ∈ own.map (·.2)) (hts1 : ∀ i ∈ ts1, i ∈ vs1)
    (hg : ∀ (s' : Shared) (H : Hp) (C : Addr) (cl : List (Str × Addr)) (fp : List Addr), PG (X.blk s' H scope (compEnvC scope cl C X.env) fp) tg (FG R X.K ts s))
    (ht : ∀ (s' : Shared) (H : Hp) (C : Addr) (cl : List (Str × Addr)) (fp : List Addr), PTs (X.blk s' H scope (compEnvC scope cl C X.env) fp) ifs (FT X.K t))
    (hi1 : ∀ (s' : Shared) (H : Hp) (C : Addr) (cl : List (Str × Addr)) (fp : List Addr), PI (X.blk s' H scope (compEnvC scope cl C X.env) fp) tg1 iter1 (FI R1 X.K it1))
    (hg1 : ∀ (s' : Shared) (H : Hp) (C : Addr) (cl : List (Str × Addr)) (fp : List Addr), PG (X.blk s' H scope (compEnvC scope cl C X.env) fp) tg1 (FG R1 X.K ts1 s1))
    (ht1 : ∀ (s' : Shared) (H : Hp) (C : Addr) (cl : List (Str × Addr)) (fp : List Addr), PTs (X.blk s' H scope (compEnvC scope cl C X.env) fp) ifs1 (FT X.K t1))
    (he : ∀ (s' : Shared) (H : Hp) (C : Addr) (cl : List (Str × Addr)) (fp : List Addr), PE (X.blk s' H scope (compEnvC scope cl C X.env) fp) elt (FV X.K f)) (hs : ∀ x, foldedSetIterable iter X.env x = pure x := by intro _; rfl) (hs1 : ∀ env x, foldedSetIterable iter1 env x = pure x := by intro _ _; rfl) :
    PE X (.ListComp elt [⟨tg, iter, ifs, 0⟩, ⟨tg1, iter1, ifs1, 0⟩] scope pos) (FE X.K (fLc2 (own.map (·.2)) vs1 it s t it1 s1 t1 f)) := pe_imp (pe_lc2 hc hN hi ok hv hg ht hi1 hg1 ht1 he hs hs1) fun _ _ _ h => lc2_of hts hts1 hv h
theorem fs_setLc2 {R R1 : Given} {i : Nat} {y : Str} {py spos : Pos} {elt tg iter tg1 iter1 : Expr} {ifs ifs1 : List Expr} {scope : Scope} {own : List (Str × Nat)} {vs1 ts ts1 : List Nat} {it it1 : Lv} {s s1 : Gv} {t t1 : Tv} {f : Vv} (hc : X.calm = true) (hN : X.N.Nodup) (hi : PI X tg iter (FI R X.K it)) (ok : BlkOk X.N X.env.scope scope own) (hv : ∀ i ∈ vs1, i ∈ own.map (·.2)) (hts : ∀ i ∈ ts, i ∈ own.map (·.2)) (hts1 : ∀ i ∈ ts1, i ∈ vs1)
    (hg : ∀ (s' : Shared) (H : Hp) (C : Addr) (cl : List (Str × Addr)) (fp : List Addr), PG (X.blk s' H scope (compEnvC scope cl C X.env) fp) tg (FG R X.K ts s))
    (ht : ∀ (s' : Shared) (H : Hp) (C : Addr) (cl : List (Str × Addr)) (fp : List Addr), PTs (X.blk s' H scope (compEnvC scope cl C X.env) fp) ifs (FT X.K t))
    (hi1 : ∀ (s' : Shared) (H : Hp) (C : Addr) (cl : List (Str × Addr)) (fp : List Addr), PI (X.blk s' H scope (compEnvC scope cl C X.env) fp) tg1 iter1 (FI R1 X.K it1))
    (hg1 : ∀ (s' : Shared) (H : Hp) (C : Addr) (cl : List (Str × Addr)) (fp : List Addr), PG (X.blk s' H scope (compEnvC scope cl C X.env) fp) tg1 (FG R1 X.K ts1 s1))
    (ht1 : ∀ (s' : Shared) (H : Hp) (C : Addr) (cl : List (Str × Addr)) (fp : List Addr), PTs (X.blk s' H scope (compEnvC scope cl C X.env) fp) ifs1 (FT X.K t1))
    (he : ∀ (s' : Shared) (H : Hp) (C : Addr) (cl : List (Str × Addr)) (fp : List Addr), PE (X.blk s' H scope (compEnvC scope cl C X.env) fp) elt (FV X.K f))
    (hy : X.N[i]? = some y := by rfl) (hyl : X.env.scope.names.lookup y = some .local := by rfl) (hsw : swapsWith (.ListComp elt [⟨tg, iter, ifs, 0⟩, ⟨tg1, iter1, ifs1, 0⟩] scope pos) (some (.Name y py)) spos.line X.env = pure true := by exact sw_true rfl rfl rfl (by decide +kernel)) (hs : ∀ x, foldedSetIterable iter X.env x = pure x := by intro _; rfl) (hs1 : ∀ env x, foldedSetIterable iter1 env x = pure x := by intro _ _; rfl) :
    PS X (.Assign [.Name y py] (.ListComp elt [⟨tg, iter, ifs, 0⟩, ⟨tg1, iter1, ifs1, 0⟩] scope pos) spos) (FS X.K (sSet i (fLc2 (own.map (·.2)) vs1 it s t it1 s1 t1 f))) := ps_imp (ps_setLc2 hc hN hy hyl hsw hi ok hv hg ht hi1 hg1 ht1 he hs hs1) fun D σ H ⟨G, en, o, en', S, e1, k⟩ => by
  obtain ⟨⟨d, b, en1⟩, p1, e2⟩ := Option.bind_eq_some_iff.mp e1
  obtain ⟨hl, e3⟩ := ite_some e2
  cases e3
  exact lc2_of hts hts1 hv ⟨G, en, d, b, en1, S, p1, fun v G1 H1 T r => k G1 H1 _ (T.s.store hl r)⟩
end
end Fx
/-! Fx19: xs[::-1], sorted(set(..)) of whole numbers. -/
namespace Fx
open PySem PySem.Spec L2
open PyProof.Rows (IntsAre)
section
variable {X : Cx} {e : Expr} {p1 p2 p3 pos : Pos}
/-! ### xs[::-1] -/
def dRev : D → Option (D × Bool)
  | .list ds => some (.list ds.reverse, true)
  | _ => none
theorem reps_rev {K : PySem.W.Frag} {G : Hp} : ∀ {xs : List V} {ds : List D}, Reps K G xs ds → Reps K G xs.reverse ds.reverse
  | _, _, .nil => .nil
  | _, _, .cons h t => by
    rw [List.reverse_cons, List.reverse_cons]
    exact (reps_rev t).append (.cons h .nil)
def rRev (K : PySem.W.Frag) : V → Hp → VK → Prop := fun x H Q => ∃ a xs, x = .ref a ∧ SqL K H a xs ∧ ∀ p, H p = none → Q (.ref p) (upd H p (.lst xs.reverse))
theorem o1_rev {K : PySem.W.Frag} : Op1 K (rRev K) dRev := fun x d z b G H Q s u hg k => by
  unfold dRev at hg
  split at hg
  · cases hg
    obtain ⟨a, xs, rfl, h, r⟩ := u.list s
    exact ⟨a, xs, rfl, h, fun p hp => k _ _ _ (New.own s hp) (Fresh.new s hp (.lst (reps_rev r)))⟩
  · cases hg
theorem fe_rev {p : Ov} {k : Nat} (ha : PE X e (FO X.K p)) : PE X (.Subscript e (.Slice none none (some (.UnaryOp .USub (.Constant (.int 1) k p1) p2)) p3) pos) (FE X.K (f1 p dRev)) :=
  pe_imp (pe_revL ha) fun _ _ _ h => t1_of (r := rRev X.K) o1_rev h
end
/-! ### sets of whole numbers in order -/
def insU (k : Int) : List Int → List Int
  | [] => [k]
  | x :: xs => if k < x then k :: x :: xs else if k = x then x :: xs else x :: insU k xs
def setI (ns : List Int) : List Int := ns.foldr insU []
theorem insU_mem {k j : Int} : ∀ {xs : List Int}, j ∈ insU k xs ↔ j = k ∨ j ∈ xs
  | [] => by simp [insU]
  | x :: xs => by
    unfold insU
    split
    · simp
    · split
      · rename_i e
        subst e
        simp
      · simp only [List.mem_cons, insU_mem (xs := xs)]
        constructor
        · rintro (h | h | h) <;> simp [h]
        · rintro (h | h | h) <;> simp [h]
theorem insU_lt {k : Int} : ∀ {xs : List Int}, xs.Pairwise (· < ·) → (insU k xs).Pairwise (· < ·)
  | [], _ => by simp [insU]
  | x :: xs, h => by
    obtain ⟨h1, h2⟩ := List.pairwise_cons.mp h
    unfold insU
    split
    · rename_i hk
      refine List.pairwise_cons.mpr ⟨fun y hy => ?_, h⟩
      rcases List.mem_cons.mp hy with rfl | hy
      · exact hk
      · have := h1 y hy
        omega
    · split
      · exact h
      · refine List.pairwise_cons.mpr ⟨fun y hy => ?_, insU_lt h2⟩
        rcases insU_mem.mp hy with rfl | hy
        · omega
        · exact h1 y hy
theorem setI_mem {j : Int} : ∀ {ns : List Int}, j ∈ setI ns ↔ j ∈ ns
  | [] => by simp [setI]
  | n :: ns => by
    show j ∈ insU n (setI ns) ↔ _
    rw [insU_mem, setI_mem (ns := ns), List.mem_cons]
theorem setI_lt : ∀ {ns : List Int}, (setI ns).Pairwise (· < ·)
  | [] => .nil
  | n :: ns => insU_lt (setI_lt (ns := ns))
theorem lt_uniq : ∀ {xs ys : List Int}, xs.Pairwise (· < ·) → ys.Pairwise (· < ·) → (∀ k, k ∈ xs ↔ k ∈ ys) → xs = ys
  | [], [], _, _, _ => rfl
  | [], y :: ys, _, _, h => by have := (h y).mpr (List.mem_cons_self ..); cases this
  | x :: xs, [], _, _, h => by have := (h x).mp (List.mem_cons_self ..); cases this
  | x :: xs, y :: ys, hx, hy, h => by
    obtain ⟨a1, a2⟩ := List.pairwise_cons.mp hx
    obtain ⟨b1, b2⟩ := List.pairwise_cons.mp hy
    have e : x = y := by
      rcases List.mem_cons.mp ((h x).mp (List.mem_cons_self ..)) with q | q
      · exact q
      · rcases List.mem_cons.mp ((h y).mpr (List.mem_cons_self ..)) with r | r
        · exact r.symm
        · have := a1 y r
          have := b1 x q
          omega
    subst e
    refine congrArg (x :: ·) (lt_uniq a2 b2 fun k => ⟨fun q => ?_, fun q => ?_⟩)
    · rcases List.mem_cons.mp ((h k).mp (List.mem_cons_of_mem _ q)) with r | r
      · have := a1 k q
        omega
      · exact r
    · rcases List.mem_cons.mp ((h k).mpr (List.mem_cons_of_mem _ q)) with r | r
      · have := b1 k q
        omega
      · exact r
theorem nodup_len : ∀ {xs ys : List Int}, xs.Nodup → ys.Nodup → (∀ k, k ∈ xs ↔ k ∈ ys) → xs.length = ys.length := fun {xs ys} hx hy h => by
  have le : ∀ {xs ys : List Int}, xs.Nodup → (∀ k, k ∈ xs → k ∈ ys) → xs.length ≤ ys.length := by
    intro xs
    induction xs with
    | nil => intro ys _ _; exact Nat.zero_le _
    | cons x xs ih =>
      intro ys d hh
      obtain ⟨d1, d2⟩ := List.nodup_cons.mp d
      have hm := hh x (List.mem_cons_self ..)
      have := ih (ys := ys.erase x) d2 fun k hk => by
        have ne : k ≠ x := fun z => d1 (z ▸ hk)
        exact (List.mem_erase_of_ne ne).mpr (hh k (List.mem_cons_of_mem _ hk))
      rw [List.length_erase_of_mem hm] at this
      have := List.length_pos_of_mem hm
      rw [List.length_cons]
      omega
  exact Nat.le_antisymm (le hx fun k => (h k).mp) (le hy fun k => (h k).mpr)
theorem setR_len {w : World} {h : Heap} {a : Addr} {ns : List Int} {c : Nat} (R : SetR w h a (fun j => decide (j ∈ ns)) c) : c = (setI ns).length := by
  obtain ⟨o, es, ep, t, ho, hex, hd, g, nd, hm, hb, hf, hn, hr, hl⟩ := R
  have e : (es.toList.map L2.keyOf).length = c := by rw [List.length_map, Array.length_toList]; exact hn
  rw [← e]
  exact nodup_len nd (setI_lt.imp fun z => by omega) fun k => by rw [← hm k, decide_eq_true_eq, setI_mem]
section
variable {P : Program} {w : World} {A : Around} {E : Value → Shared → Prop} {s : Shared}
/-- set(l) of a list of whole numbers -/
theorem set_of_list {a : Addr} {vs : Array Value} (ns : List Int) {Q : Value → Shared → Prop} (nh : A.handled = none) (hL : s.heap.IsList a vs) (hI : IntsAre vs.toList ns) (hB : ns.length + 1 < scanBound)
    (k : ∀ (g : Heap) (tk c : Nat), SetR w g s.heap.objs.size (fun j => decide (j ∈ ns)) c → c ≤ ns.length → (∀ b o, s.heap.get? b = some o → g.get? b = some o) → Q (.ref s.heap.objs.size) { s with heap := g, toks := tk }) :
    wpAny (model P w) A (call (.type "set") [.ref a]) Q E s := by
  have vz : vs.size = ns.length := by
    have q := IntsAre.length hI
    rwa [Array.length_toList] at q
  obtain ⟨cm, tm, mro⟩ := F.called_set.mro
  have made := F.called_set.made
  have subs := F.called_set.sub
  refine wpAny_call (codeAny_of_tree ?_)
  show wpAny _ _ (callAny (.type "set") _) _ _ _
  refine wpAny_pure ⟨Code.quiet_builtin _ (by decide +kernel), codeAny_builtin F.entry_type_call ?_⟩
  rw [Around.under_plain (weight_type_call_type "set" [.ref a] []) rfl]
  have f1 := F.called_set.notType
  have f2 := F.called_set.canCreate
  have f3 := F.typeCall_set_1 (.ref a)
  repeat (any_goals (first | assumption | wp_step))

  refine codeAny_mono (code_set_led1 (.ref a) (E := E) (Q₁ := fun r u => r = .ref s.heap.objs.size ∧ u = { s with heap := s.heap.push { cls := .type "set", dict := none, data := .set #[] 0 (.fresh 0 0 (!w.params.followText "set-order")) } }) ⟨rfl, rfl⟩) fun r u hr => ?_
  cases r with
  | error x => exact hr
  | ok fl =>
    cases fl with
    | ret ob =>
      obtain ⟨rfl, rfl⟩ := hr
      have at0 : (s.heap.push ({ cls := .type "set", dict := none, data := .set #[] 0 (.fresh 0 0 (!w.params.followText "set-order")) })).get? s.heap.objs.size = some { cls := .type "set", dict := none, data := .set #[] 0 (.fresh 0 0 (!w.params.followText "set-order")) } := Heap.get?_push_size _ rfl
      have ty0 : Shared.TypeIs { s with heap := s.heap.push ({ cls := .type "set", dict := none, data := .set #[] 0 (.fresh 0 0 (!w.params.followText "set-order")) }) } (.ref s.heap.objs.size) "set" := ⟨_, at0, rfl⟩
      have li := F.called_set.init.lookup
      have bi := F.called_set.init.bind (.ref s.heap.objs.size)
      repeat (any_goals (first | assumption | wp_step))

      refine codeAny_mono (codeAny_call_builtin (R := wants (fun r t => r = .none ∧ ∃ g tk c, t = { s with heap := g, toks := tk } ∧ SetR w g s.heap.objs.size (fun j => decide (j ∈ ns)) c ∧ c ≤ ns.length ∧ ∀ b o, s.heap.get? b = some o → g.get? b = some o) E)
        F.called_set.init.plain F.entry_set_init (check_set_init_1 ty0 ?_)) fun r t ht => ?_
      · obtain ⟨ol, oa, oc, no, od⟩ := hL
        obtain ⟨lc, ld, ldat, ls⟩ := ol
        simp only at oc od
        subst oc; subst od
        have oa' : (s.heap.push ({ cls := .type "set", dict := none, data := .set #[] 0 (.fresh 0 0 (!w.params.followText "set-order")) })).get? a = some { cls := .type "list", dict := ld, data := .seq vs no, slots := ls } := Heap.get?_push_of_some _ oa
        have g1 := F.sub_list_set
        have g2 := F.sub_list_frozenset
        have g3 : (Value.type "list" == Value.type "dict") = false := by decide
        have L1 : (s.heap.push ({ cls := .type "set", dict := none, data := .set #[] 0 (.fresh 0 0 (!w.params.followText "set-order")) })).IsList a vs := ⟨_, oa', rfl, no, rfl⟩
        unfold Builtin.«set.__init__» noKeywords Builtin.Frozenset.updateFrom
        generalize eP : pyIter = PI
        wp_walk
        subst eP

        refine wpAny_pyIter_list (s := { s with heap := s.heap.push ({ cls := .type "set", dict := none, data := .set #[] 0 (.fresh 0 0 (!w.params.followText "set-order")) }) }) L1 ?_
        refine wpAny_bind (wpAny_runValue ?_)
        have ltA : a < s.heap.objs.size := Heap.lt_size oa
        have nh3 : A.in1.in1.in1.handled = none := by simp [nh]
        have szN : (s.heap.push ({ cls := .type "set", dict := none, data := .set #[] 0 (.fresh 0 0 (!w.params.followText "set-order")) })).objs.size = s.heap.objs.size + 1 := Heap.size_push ..
        have neI : a ≠ (s.heap.push ({ cls := .type "set", dict := none, data := .set #[] 0 (.fresh 0 0 (!w.params.followText "set-order")) })).objs.size := by rw [szN]; exact Nat.ne_of_lt (Nat.lt_succ_of_lt ltA)
        have offS : s.heap.objs.size ∉ [(s.heap.push ({ cls := .type "set", dict := none, data := .set #[] 0 (.fresh 0 0 (!w.params.followText "set-order")) })).objs.size, a] := by
          rw [szN]
          simp only [List.mem_cons, List.not_mem_nil, or_false, not_or]
          exact ⟨Nat.ne_of_lt (Nat.lt_succ_self _), Nat.ne_of_gt ltA⟩
        have vals : ∀ (i : Nat) (v : Value), vs[i]? = some v → ∃ j t, ns[i]? = some j ∧ v = .int j t := fun i v hv => by
          have hi : i < ns.length := by rw [← vz]; exact (Array.getElem?_eq_some_iff.mp hv).1
          obtain ⟨t, et⟩ := PyProof.Rows.IntsAre.int_at hI i v (by rw [Array.getElem?_toList]; exact hv)
          refine ⟨ns[i], t, List.getElem?_eq_getElem hi, ?_⟩
          rw [et, List.getD_eq_getElem?_getD, List.getElem?_eq_getElem hi] <;> rfl
        refine set_update_ints ((Walks.list nh3 _ a neI vs).toS) s.heap.objs.size offS ns vz hB vals (vs.size - 0) 0 _ (by omega) (Nat.zero_le _) ⟨⟨_, Heap.get?_push_size _ rfl, rfl, rfl⟩, (L1.push _)⟩ ?s0 ?s1
        case s0 =>
          exact ⟨0, Nat.le_refl 0, setR_new_at (Heap.get?_push_of_some _ at0)⟩
        case s1 =>
          intro u c hm hc hR
          obtain ⟨g, gg, dd, tk, oo⟩ := u
          have x1 : gg = s.gens := hm.gens
          have x2 : dd = s.drawn := hm.drawn
          have x3 : oo = s.os := hm.os
          subst x1; subst x2; subst x3
          show wpAny _ _ _ _ _ _
          refine wpAny_pure ?_
          show wpAny _ _ (ret Value.none) _ _ _
          rw [vz] at hc
          refine wpAny_pure ⟨rfl, g, tk, c, rfl, hR, hc, fun b o hb => ?_⟩
          have lb : b < s.heap.objs.size := Heap.lt_size hb
          refine hm.heap b o ?_ (Heap.get?_push_of_some _ (Heap.get?_push_of_some _ hb))
          simp only [List.mem_cons, List.not_mem_nil, or_false, not_or]
          exact ⟨Nat.ne_of_lt lb, by rw [szN]; exact Nat.ne_of_lt (Nat.lt_succ_of_lt lb)⟩

      · cases r with
        | error x => exact ht
        | ok fl =>
          cases fl with
          | ret v =>
            obtain ⟨rfl, g, tk, c, rfl, hR, hc, hk⟩ := ht
            repeat (any_goals (first | assumption | wp_step))
            exact k _ _ _ hR hc hk
          | _ => exact ht.elim
    | _ => exact hr.elim
end
def rSetL (K : PySem.W.Frag) (w : World) : List V → Hp → VK → Prop := fun vs H Q => ∃ (a : Addr) (ns : List Int), vs = [.ref a] ∧ (SqL K H a (ns.map V.int) ∨ SqT K H a (ns.map V.int)) ∧ ns.length ≤ 1000 ∧ ∀ p, H p = none → Q (.ref p) (upd H p (SetO w p (fun j => decide (j ∈ ns)) (setI ns).length))
section
variable {X : Cx} {e : Expr} {p1 p2 pos pos2 : Pos}
theorem cr_setL (hc : X.calm = true) : CallR X (.type "set") (rSetL X.K X.w) := by
  intro pins s σ H vs us Q I r ⟨a, ns, ev, hq, hl, q⟩
  subst ev
  rw [Vals.ref1 r]
  have hd := I.ok.hd hc
  have sb : ns.length + 1 < scanBound := by unfold scanBound; omega
  have fin : ∀ (g : Heap) (tk c : Nat), SetR X.w g s.heap.objs.size (fun j => decide (j ∈ ns)) c → c ≤ ns.length → (∀ b o, s.heap.get? b = some o → g.get? b = some o) → EP X pins σ Q (.ref s.heap.objs.size) { s with heap := g, toks := tk } := fun g tk c R _ k => by
    have ec := setR_len R
    subst ec
    exact ⟨.ref _, upd H s.heap.objs.size (SetO X.w s.heap.objs.size (fun j => decide (j ∈ ns)) (setI ns).length), I.laid (t' := tk) k (Nat.le_refl _) (setO_new R), rfl, q _ (I.hok.fresh (Nat.le_refl _))⟩
  rcases hq with hq | hq
  · obtain ⟨its, rv, pl, hz⟩ := I.list hq
    exact set_of_list ns hd (show s.heap.IsList a its.toArray from pl.isList) (ints_of_vals rv) sb fin
  · obtain ⟨its, rv, pl, hz⟩ := I.tuple hq
    exact call_set_tupI ns hd (show s.heap.IsTuple a its.toArray from pl) (ints_of_vals rv) sb fin
def lstD : D → Option (List D)
  | .list ds => some ds
  | .tuple ds => some ds
  | _ => none
def dSortSet : List D → Option (D × Bool)
  | [d] => (lstD d).bind fun ds => (intsD ds).bind fun ns => if ns.length ≤ 1000 ∧ (setI ns).length < 64 then some (.list ((setI ns).map .int), true) else none
  | _ => none
theorem reps_ofI {K : PySem.W.Frag} {G : Hp} : ∀ ns : List Int, Reps K G (ns.map V.int) (ns.map .int)
  | [] => .nil
  | n :: ns => .cons (.int _) (reps_ofI ns)
theorem fe_sortSet {l : Av} (hc : X.calm = true) (hm1 : X.mg "sorted" = none) (hm2 : X.mg "set" = none) (ha : PA X [e] (FA X.K l)) (hg1 : Gl X "sorted" := by rfl) (hg2 : Gl X "set" := by rfl) (n1 : starEach [e] X.env = (false, eval e X.env) :: starEach [] X.env := by rfl)
    (n2 : starEach [.Call (.Name "set" p2) [e] [] pos2] X.env = (false, eval (.Call (.Name "set" p2) [e] [] pos2) X.env) :: starEach [] X.env := by rfl) : PE X (.Call (.Name "sorted" p1) [.Call (.Name "set" p2) [e] [] pos2] [] pos) (FE X.K (fN l dSortSet)) :=
  pe_imp (pe_callB (cr_sortedSet hc) hg1 hm1 PyProof.Rows.boot_sorted (pa_cons (pe_callTy (cr_setL hc) hg2 hm2 PyProof.Rows.boot_set ha (by decide) (by decide) n1 rfl) pa_nil n2) (by decide) (by decide) n2 rfl) fun σ H Q h => by
    refine tN_of (r := fun vs H Q => rSetL X.K X.w vs H fun v H1 => rSortedSet X.w [v] H1 Q) ?_ h
    intro vs ds z b G H Q s u hg k
    unfold dSortSet at hg
    split at hg
    · obtain ⟨es, h1, hg⟩ := Option.bind_eq_some_iff.mp hg
      obtain ⟨ns, h2, hg⟩ := Option.bind_eq_some_iff.mp hg
      obtain ⟨⟨h3, h4⟩, hg⟩ := ite_some hg
      cases hg
      obtain ⟨v, rfl, u0⟩ := u.one
      have fin : ∀ p, H p = none → rSortedSet X.w [V.ref p] (upd H p (SetO X.w p (fun j => decide (j ∈ ns)) (setI ns).length)) Q := fun p hp => by
        refine ⟨p, _, _, rfl, upd_same, h4, fun ms q hlt hme hle hq => ?_⟩
        have e : ms = setI ns := lt_uniq hlt setI_lt fun j => by rw [hme, decide_eq_true_eq, setI_mem]
        subst e
        have N := New.own (o := SetO X.w p (fun j => decide (j ∈ ns)) (setI ns).length) s hp
        have N2 := New.own (o := .lst ((setI ns).map V.int)) N.sub hq
        have hq0 : H q = none := N.ext.t q hq
        exact k _ _ _ ⟨N.ext.trans N2.ext fun _ z => z.elim, N2.sub⟩ ⟨q, _, rfl, .inl hq0, fun z => z, upd_same, s.free hq0, .lst (reps_ofI _)⟩
      unfold lstD at h1
      split at h1
      · cases h1
        obtain ⟨a, xs, rfl, h, r⟩ := u0.list s
        exact ⟨a, ns, rfl, .inl (intsD_of r h2 ▸ h), h3, fin⟩
      · cases h1
        obtain ⟨a, xs, rfl, h, r⟩ := u0.tuple s
        exact ⟨a, ns, rfl, .inr (intsD_of r h2 ▸ h), h3, fin⟩
      · cases h1
    · cases hg
end
end Fx
/-! Fx20: xs.remove(k). -/
namespace Fx
open PySem PySem.Spec L2
def mRem : D → List D → Option (D × Bool × D)
  | .list ds, [.int k] => (intsD ds).bind fun ns => if k ∈ ns then some (.none, false, .list ((ns.erase k).map .int)) else none
  | _, _ => none
theorem om_rem {K : PySem.W.Frag} : OpM K rRemI mRem := fun l o d xs ds z b d' G H Q s g h r rs e k => by
  unfold mRem at e
  split at e
  · rename_i es k0
    obtain ⟨ns, e1, e2⟩ := Option.bind_eq_some_iff.mp e
    obtain ⟨hk, e3⟩ := ite_some e2
    cases e3
    cases r with
    | lst q =>
      cases rs with
      | cons r1 r2 =>
        cases r2
        cases r1
        have ex := intsD_of q e1
        subst ex
        have hj : ns.idxOf k0 < ns.length := List.idxOf_lt_length_of_mem hk
        refine ⟨l, ns, k0, ns.idxOf k0, rfl, rfl, h, ?_, fun m hm e => ?_, ?_⟩
        · rw [List.getElem?_eq_getElem hj, List.getElem_idxOf]
        · obtain ⟨hl, e4⟩ := List.getElem?_eq_some_iff.mp e
          exact absurd e4 (by
            intro z
            have := List.not_of_lt_findIdx (p := (· == k0)) (xs := ns) (i := m) hm
            simp [z] at this)
        · rw [← List.erase_eq_eraseIdx_of_idxOf rfl]
          exact opM_upd s g h (.lst (reps_ofI _)) .non k
  · cases e
end Fx
/-! Fx21: [..] * k of a new list; comprehensions over the keys of a dict of this frame. -/
namespace Fx
open PySem PySem.Spec L2
/-! ### [..] * k -/
def fRep (f : Ev) (q : Ov) : Ev := fun en => (f en).bind fun x => (q x.2.2).bind fun y => (y.1.late y.2).bind fun e => match x.1, x.2.1, e with
  | .list ds, true, .int k => if -(2 ^ 63) ≤ k ∧ k < 2 ^ 63 ∧ ds.length * k.toNat ≤ sizeLine then some (.list (List.replicate k.toNat ds).flatten, true, y.2) else none
  | _, _, _ => none
theorem reps_rep {K : PySem.W.Frag} {G : Hp} {xs : List V} {ds : List D} (h : Reps K G xs ds) : ∀ n : Nat, Reps K G (List.replicate n xs).flatten (List.replicate n ds).flatten
  | 0 => .nil
  | n + 1 => by
    rw [List.replicate_succ, List.replicate_succ, List.flatten_cons, List.flatten_cons]
    exact h.append (reps_rep h n)
section
variable {X : Cx} {a b : Expr} {pos : Pos}
theorem fe_rep {f : Ev} {q : Ov} (ha : PE X a (FE X.K f)) (hb : PE X b (FO X.K q)) : PE X (.BinOp a .Mult b pos) (FE X.K (fRep f q)) :=
  pe_imp (pe_op op_rep ha hb) fun σ H Q ⟨G, en, z, zb, en', S, e1, k⟩ => by
    obtain ⟨⟨d, fl, en1⟩, p1, e2⟩ := Option.bind_eq_some_iff.mp e1
    obtain ⟨⟨y, en2⟩, p2, e3⟩ := Option.bind_eq_some_iff.mp e2
    obtain ⟨e, p3, e4⟩ := Option.bind_eq_some_iff.mp e3
    refine ⟨G, en, d, fl, en1, S, p1, fun v G1 H1 T1 r1 => ⟨G1, en1, y, en2, T1.sr, p2, fun w G2 H2 T2 r2 => ?_⟩⟩
    have u2 := r2.use T2.sr p3
    dsimp only at e4
    split at e4
    · rename_i ds kk
      obtain ⟨⟨h1, h2, h3⟩, e5⟩ := ite_some e4
      cases e5
      obtain ⟨l, o, rfl, _, n1, hl, gl, ro⟩ := r1
      cases ro with
      | lst rr =>
        have hl2 := T2.ext.h l _ hl n1
        have rr2 := rr.mono T2.ext.g
        refine ⟨l, kk, _, rfl, u2.int, hl2, h1, h2, by rw [rr2.length]; exact h3, fun p hp => ?_⟩
        exact k _ _ _ ((T1.trans T2).trans ((New.own T2.sr.sub hp).step T2.sr)) ((Fresh.new T2.sr.sub hp (.lst (reps_rep rr2 _))).res' (T1.trans T2))
    · cases e4
end
/-! ### comprehensions, the walk given -/
def JOk2 (R : Given) (K : PySem.W.Frag) (J : It) (G0 H0 : Hp) (O : Addr → Prop) (ds : List D) : Prop := ∀ i G H, Same G0 G → Same G H → (∀ a o, H0 a = some o → ¬ O a → H a = some o) → (ds.length ≤ i → J.stop i H) ∧ ∀ d, ds[i]? = some d → J.go i H ∧ ∀ x H', J.yld i H x H' → ∃ G', New G H G' H' ∧ R K G' x d
theorem lcJ_of {R : Given} {K : PySem.W.Frag} {vs ts : List Nat} {s : Gv} {t : Tv} {f : Vv} (hts : ∀ i ∈ ts, i ∈ vs) {σ : St} {G1 H1 : Hp} {en1 en2 : En} {ds rs : List D} (S1 : SR K G1 H1 en1 σ) (p2 : lcL vs s t f ds (wipeE en1 vs) = some (rs, en2)) (hz : rs.length ≤ sizeLine) {J : It} (hJ : JOk2 R K J G1 H1 (OwnA en1 σ) ds) {Q : VK}
    (k : ∀ v G' H', Step K en1 (backE en1 en2 vs) σ G1 H1 G' H' → Res K (OwnA en1 σ) H1 (OwnA (backE en1 en2 vs) σ) G' H' v (.list rs) true → Q v H') :
    ∀ D, H1 D = none → ∃ W : Nat → Nat → Hp → Prop, (∃ m, W 0 m (upd H1 D (.lst []))) ∧ ∀ i m H, W i m H → (J.stop i H ∧ Q (.ref D) H) ∨ (J.go i H ∧ ∃ Nx : Hp → Prop, (∀ H', Nx H' → ∃ m', m' < m ∧ W (i + 1) m' H') ∧ ∀ x H', J.yld i H x H' → FG R K ts s x (wipe σ vs) H' fun σ2 H2 => wipe σ2 vs = wipe σ vs ∧ FT K t σ2 H2 fun b H3 => if b = true then FV K f σ2 H3 fun y H4 => ∃ acc, H4 D = some (.lst acc) ∧ acc.length < sizeLine ∧ Nx (upd H4 D (.lst (acc ++ [y]))) else Nx H3) := by
  intro D hD
  have nobD : ∀ {e : En} {σ' : St}, (∀ b, OwnA e σ' b → OwnA (wipeE en1 vs) (wipe σ vs) b) → ¬ OwnA e σ' D := fun {e σ'} hh q => by
    obtain ⟨o, ho, _⟩ := S1.there (own_wipe (hh D q))
    rw [hD] at ho
    cases ho
  refine ⟨fun i m H' => ∃ G' e' accV acc rest, StepG K (wipeE en1 vs) (wipe σ vs) G1 H1 e' (wipe σ vs) G' H' ∧ wipeE e' vs = e' ∧ G' D = none ∧ H' D = some (.lst accV) ∧ Reps K G' accV acc ∧ m = ds.length - i ∧ lcL vs s t f (ds.drop i) e' = some (rest, en2) ∧ rs = acc ++ rest, ⟨ds.length, G1, _, [], [], rs, ?_, wipeE_wipeE, S1.sub.free hD, upd_same, .nil, rfl, p2, rfl⟩, ?_⟩
  · have N := New.own (o := .lst []) S1.sub hD
    exact step_g (N.step S1.wipe)
  rintro i m H2 ⟨G2, e2, accV, acc, rest, T2, w2, gD, hD2, ra, rfl, pl, er⟩
  have nD2 := nobD T2.own
  have gg : Same G1 G2 := T2.ext.g
  obtain ⟨j1, j2⟩ := hJ i G2 H2 gg T2.sr.sub fun a o h n => T2.ext.h a o h fun z => n (own_wipe z)
  by_cases hi : i < ds.length
  · rw [List.drop_eq_getElem_cons hi] at pl
    obtain ⟨e3, q3, pl⟩ := Option.bind_eq_some_iff.mp pl
    obtain ⟨⟨c, e4⟩, q4, pl⟩ := Option.bind_eq_some_iff.mp pl
    rw [w2] at q3
    obtain ⟨j3, j4⟩ := j2 ds[i] (List.getElem?_eq_getElem hi)
    refine .inr ⟨j3, fun H' => ∃ G' e' accV acc rest, StepG K (wipeE en1 vs) (wipe σ vs) G1 H1 e' (wipe σ vs) G' H' ∧ wipeE e' vs = e' ∧ G' D = none ∧ H' D = some (.lst accV) ∧ Reps K G' accV acc ∧ lcL vs s t f (ds.drop (i + 1)) e' = some (rest, en2) ∧ rs = acc ++ rest,
      fun H' ⟨G', e', aV, a, r, h1, h2, h3, h4, h5, h6, h7⟩ => ⟨ds.length - (i + 1), by omega, G', e', aV, a, r, h1, h2, h3, h4, h5, rfl, h6, h7⟩, fun x H3 hy => ?_⟩
    obtain ⟨G3, N3, r3⟩ := j4 x H3 hy
    have T3 := T2.trans (step_g (N3.step T2.sr))
    have gD3 : G3 D = none := N3.ext.n D _ hD2 (fun z => z) gD
    have hD3 : H3 D = some (.lst accV) := N3.ext.h D _ hD2 fun z => z
    refine ⟨G3, e2, _, e3, T3.sr, r3, q3, fun σ4 G4 H4 T4 k4 => ?_⟩
    have hl4 : σ4.length = σ.length := k4.1.trans (wipe_length σ vs)
    have ww : wipe σ4 vs = wipe σ vs := wipe_wipe (K := K) hts hl4 k4.2
    refine ⟨ww, ?_⟩
    have T34 := T3.trans T4
    have nD4 := nobD T34.own
    have nD3 := nobD T3.own
    have gD4 : G4 D = none := T4.ext.n D _ hD3 nD3 gD3
    have hD4 : H4 D = some (.lst accV) := T4.ext.h D _ hD3 nD3
    refine ⟨G4, e3, c, e4, T4.sr, q4, fun G5 H5 T5 => ?_⟩
    have T35 := T34.trans (step_g T5)
    have nD5 := nobD T35.own
    have gD5 : G5 D = none := T5.ext.n D _ hD4 nD4 gD4
    have hD5 : H5 D = some (.lst accV) := T5.ext.h D _ hD4 nD4
    have fin : ∀ {e6 : En} {G6 H6 : Hp}, StepG K (wipeE en1 vs) (wipe σ vs) G1 H1 e6 σ4 G6 H6 → StepG K (wipeE en1 vs) (wipe σ vs) G1 H1 (wipeE e6 vs) (wipe σ vs) G6 H6 := fun {e6 G6 H6} T => by
      have W := T.sr.wipe (vs := vs)
      rw [ww] at W
      refine ⟨T.ext, W, fun b q => ?_, fun i d q => ?_⟩
      · rw [← ww] at q
        exact T.own b (own_wipe q)
      · obtain ⟨⟨d', e'⟩, s'⟩ := T.lent i d q
        exact ⟨⟨d', by rw [wipeE_off (wipeE_at q).2]; exact e'⟩, rfl⟩
    cases c with
    | false =>
      refine iteF ⟨G5, wipeE e4 vs, accV, acc, rest, fin T35, wipeE_wipeE, gD5, hD5, ra.mono ((N3.ext.g.trans T4.ext.g).trans T5.ext.g), ?_, er⟩
      exact pl
    | true =>
      obtain ⟨⟨y, e6⟩, q6, pl⟩ := Option.bind_eq_some_iff.mp (show ((f e4).bind fun y => (lcL vs s t f (ds.drop (i + 1)) (wipeE y.2 vs)).map fun r => (y.1 :: r.1, r.2)) = some (rest, en2) from pl)
      obtain ⟨⟨rest', en3⟩, q7, pl⟩ := Option.map_eq_some_iff.mp pl
      cases pl
      refine iteT ⟨G5, e4, y, e6, T5.sr, q6, fun yv G6 H6 T6 ry => ?_⟩
      have T36 := T35.trans (step_g T6)
      have gD6 : G6 D = none := T6.ext.n D _ hD5 nD5 gD5
      have hD6 : H6 D = some (.lst accV) := T6.ext.h D _ hD5 nD5
      have ra6 := ra.mono (((N3.ext.g.trans T4.ext.g).trans T5.ext.g).trans T6.ext.g)
      have T7 := fin T36
      refine ⟨accV, hD6, ?_, G6, wipeE e6 vs, accV ++ [yv], acc ++ [y], rest', ⟨T7.ext.nobody hD, T7.sr.nobody hD6 gD6 (nobD T7.own), T7.own, T7.lent⟩, wipeE_wipeE, gD6, upd_same, ra6.append (.cons ry .nil), q7, by rw [er, List.append_assoc]; rfl⟩
      have h1 := ra.length
      rw [er, List.length_append, List.length_cons] at hz
      omega
  · rw [List.drop_eq_nil_of_le (by omega)] at pl
    cases pl
    refine .inl ⟨j1 (by omega), ?_⟩
    have B := T2.back S1
    have er2 : rs = acc := by rw [er, List.append_nil]
    refine k _ G2 H2 B (Res.new (.inl hD) (fun q => ?_) hD2 gD (.lst (er2 ▸ ra)))
    obtain ⟨o, ho, _⟩ := S1.there (B.own D q)
    rw [hD] at ho
    cases ho
/-! ### .. over the keys of a dict of this frame -/
def fLcK (vs : List Nat) (i : Nat) (s : Gv) (t : Tv) (f : Vv) : Ev := fun en => match en[i]? with
  | some (some (.dict es, .own)) => (lcL vs s t f (es.map (·.1)) (wipeE (en.set i none) vs)).bind fun y => if y.1.length ≤ sizeLine then some (.list y.1, true, (backE (en.set i none) y.2 vs).set i (some (.dict es, .own))) else none
  | _ => none
theorem repKV_at {K : PySem.W.Frag} {G : Hp} : ∀ {kvs : List (Key × V)} {es : List (D × D)} {i : Nat}, RepKV K G kvs es → (es.map (·.1)).length = kvs.length ∧ ∀ d, (es.map (·.1))[i]? = some d → ∃ k v, kvs[i]? = some (k, v) ∧ d = kD k
  | _, _, i, .nil => ⟨rfl, fun d h => by simp at h⟩
  | _, _, 0, .cons (k := k) (v := v) h t => ⟨by have := (repKV_at (i := 0) t).1; simp at this ⊢; exact this, fun d e => by simp at e; exact ⟨k, v, rfl, e.symm⟩⟩
  | _, _, i + 1, .cons h t => ⟨by have := (repKV_at (i := 0) t).1; simp at this ⊢; exact this, fun d e => (repKV_at (i := i) t).2 d (by simpa using e)⟩
theorem rep_key {K : PySem.W.Frag} {G : Hp} (k : Key) : Rep K G (kV k) (kD k) := by
  cases k
  · exact .int _
  · exact .str _
section
variable {K : PySem.W.Frag} {G H G1 H1 : Hp} {en : En} {σ : St} {i : Nat} {a : Addr} {es : List (D × D)} {kvs : List (Key × V)}
theorem SR.hide (S : SR K G H en σ) (o : HO) (hG : G a = none) (hs : σ[i]? = some (some (.ref a))) {d : D} (he : en[i]? = some (some (d, .own))) : SR K G (upd H a o) (en.set i none) σ := by
  refine ⟨fun b u e => ?_, by rw [List.length_set]; exact S.len, fun j d q => ?_, fun j d f q n => ?_, fun j k d e f g b q1 n1 q2 n2 s1 s2 => ?_⟩
  · have hb : b ≠ a := fun z => by rw [z, hG] at e; cases e
    rw [upd_ne hb]
    exact S.sub b u e
  · rcases set_at q with ⟨_, w, _⟩ | ⟨_, w⟩
    · cases w
    · exact S.shd j d w
  · rcases set_at q with ⟨_, w, _⟩ | ⟨hj, w⟩
    · cases w
    · obtain ⟨x, u, s1, s2, s3, s4⟩ := S.own j d f w n
      have hx : x ≠ a := fun z => hj (S.sep j i _ _ f .own a w n he (fun z => by cases z) (z ▸ s1) hs)
      exact ⟨x, u, s1, s2, by rw [upd_ne hx]; exact s3, s4⟩
  · rcases set_at q1 with ⟨_, w, _⟩ | ⟨_, w1⟩
    · cases w
    · rcases set_at q2 with ⟨_, w, _⟩ | ⟨_, w2⟩
      · cases w
      · exact S.sep j k d e f g b w1 n1 w2 n2 s1 s2
theorem hide_not (S : SR K G H en σ) (hs : σ[i]? = some (some (.ref a))) {d : D} (he : en[i]? = some (some (d, .own))) : ¬ OwnA (en.set i none) σ a := by
  rintro ⟨j, d2, f, q, n, s⟩
  rcases set_at q with ⟨_, w, _⟩ | ⟨hj, w⟩
  · cases w
  · exact hj (S.sep j i _ _ f .own a w n he (fun z => by cases z) s hs)
theorem hide_own (he : ∃ d, en[i]? = some (some (d, Fl.own))) {b : Addr} (h : OwnA (en.set i none) σ b) : OwnA en σ b := by
  obtain ⟨j, d2, f, q, n, s⟩ := h
  rcases set_at q with ⟨_, w, _⟩ | ⟨hj, w⟩
  · cases w
  · exact ⟨j, d2, f, w, n, s⟩
/-- the dict comes back to its slot -/
theorem Step.unhide {e2 : En} {o o0 : HO} (S : SR K G H en σ) (hG : G a = none) (hH : H a = some o) (hs : σ[i]? = some (some (.ref a))) {d : D} (he : en[i]? = some (some (d, .own))) (ro : RepO K G o d) (T : Step K (en.set i none) e2 σ G (upd H a o0) G1 H1) : Step K en (e2.set i (some (d, .own))) σ G H G1 (upd H1 a o) := by
  have na := hide_not S hs he
  have hi : i < en.length := (List.getElem?_eq_some_iff.mp he).1
  have hl2 : e2.length = σ.length := T.sr.len
  have hl : en.length = σ.length := S.len
  have g1 : G1 a = none := T.ext.n a o0 upd_same na hG
  have h1 : H1 a = some o0 := T.ext.h a o0 upd_same na
  have off : ∀ {b : Addr}, OwnA e2 σ b → b ≠ a := fun {b} q z => na (z ▸ T.own b q)
  have ro1 := ro.mono T.ext.g
  refine ⟨⟨T.ext.g, fun b u e n => ?_, fun b u e n g => ?_, fun b e => ?_⟩, ⟨fun b u e => ?_, by rw [List.length_set]; exact hl2, fun j d2 q => ?_, fun j d2 f q n => ?_, fun j k d2 e f g b q1 n1 q2 n2 s1 s2 => ?_⟩, fun b q => ?_, fun j d2 q => ?_⟩
  · have hb : b ≠ a := fun z => n ⟨i, d, .own, he, (fun z => by cases z), z ▸ hs⟩
    rw [upd_ne hb]
    exact T.ext.h b u (by rw [upd_ne hb]; exact e) fun z => n (hide_own ⟨d, he⟩ z)
  · have hb : b ≠ a := fun z => n ⟨i, d, .own, he, (fun z => by cases z), z ▸ hs⟩
    exact T.ext.n b u (by rw [upd_ne hb]; exact e) (fun z => n (hide_own ⟨d, he⟩ z)) g
  · by_cases hb : b = a
    · rw [hb, upd_same] at e
      cases e
    · rw [upd_ne hb] at e
      have := T.ext.t b e
      rw [upd_ne hb] at this
      exact this
  · have hb : b ≠ a := fun z => by rw [z, g1] at e; cases e
    rw [upd_ne hb]
    exact T.sr.sub b u e
  · rcases set_at q with ⟨_, w, _⟩ | ⟨_, w⟩
    · cases w
    · exact T.sr.shd j d2 w
  · rcases set_at q with ⟨rfl, w, _⟩ | ⟨hj, w⟩
    · cases w
      exact ⟨a, o, hs, g1, upd_same, ro1⟩
    · obtain ⟨x, u, s1, s2, s3, s4⟩ := T.sr.own j d2 f w n
      have hx : x ≠ a := off ⟨j, d2, f, w, n, s1⟩
      exact ⟨x, u, s1, s2, by rw [upd_ne hx]; exact s3, s4⟩
  · rcases set_at q1 with ⟨h1, w, _⟩ | ⟨hj, w1⟩
    · rcases set_at q2 with ⟨h2, w', _⟩ | ⟨hk, w2⟩
      · exact h1.trans h2.symm
      · subst h1
        rw [hs] at s1
        cases s1
        exact absurd rfl (off ⟨k, e, g, w2, n2, s2⟩)
    · rcases set_at q2 with ⟨h2, w', _⟩ | ⟨hk, w2⟩
      · subst h2
        rw [hs] at s2
        cases s2
        exact absurd rfl (off ⟨j, d2, f, w1, n1, s1⟩)
      · exact T.sr.sep j k d2 e f g b w1 n1 w2 n2 s1 s2
  · obtain ⟨j, d2, f, q, n, s⟩ := q
    rcases set_at q with ⟨h1, w, _⟩ | ⟨hj, w⟩
    · subst h1
      exact ⟨j, d, .own, he, (fun z => by cases z), s⟩
    · exact hide_own ⟨d, he⟩ (T.own b ⟨j, d2, f, w, n, s⟩)
  · have hj : j ≠ i := fun z => by rw [z, he] at q; cases q
    obtain ⟨d', q'⟩ := T.lent j d2 (by rw [List.getElem?_set_ne (Ne.symm hj)]; exact q)
    exact ⟨d', by rw [List.getElem?_set_ne (Ne.symm hj)]; exact q'⟩
end
section
variable {X : Cx} {e : Expr} {pos : Pos}
theorem lcK_of {K : PySem.W.Frag} {vs ts : List Nat} {i : Nat} {s : Gv} {t : Tv} {f : Vv} (hts : ∀ i ∈ ts, i ∈ vs) {σ : St} {H : Hp} {Q : VK} (h : FE K (fLcK vs i s t f) σ H Q) : tLockE (tLc (iKeys (tVar i)) (FG Rep K ts s) (FT K t) (FV K f) vs) σ H Q := by
  obtain ⟨G, en, z, zb, en', S, e1, k⟩ := h
  unfold fLcK at e1
  split at e1
  · rename_i es he
    obtain ⟨⟨rs, en2⟩, p2, e2⟩ := Option.bind_eq_some_iff.mp e1
    obtain ⟨hz, e3⟩ := ite_some e2
    cases e3
    obtain ⟨a, o, hs, hG, hH, ro⟩ := S.own i _ .own he (fun z => by cases z)
    cases ro with
    | dK rr =>
      rename_i kvs
      refine ⟨a, _, hH, trivial, fun od => ?_⟩
      have S1 := S.hide (.frz od (.dK kvs)) hG hs he
      have na := hide_not S hs he
      refine ⟨.ref a, hs, a, od, rfl, .inl ⟨kvs, upd_same, ?_⟩⟩
      refine lcJ_of (R := Rep) (J := Itk a od kvs) (Q := fun v H' => H' a = some (.frz od (.dK kvs)) ∧ Q v (upd H' a (.dK kvs))) hts S1 p2 hz (fun j G2 H2 s1 s2 pr => ?_) fun v G' H' T r => ?_
      · have ha := pr a _ upd_same na
        obtain ⟨hl, hk⟩ := repKV_at (i := j) rr
        refine ⟨fun hj => ⟨ha, hl ▸ hj⟩, fun d hd => ?_⟩
        obtain ⟨kk, vv, q1, rfl⟩ := hk d hd
        refine ⟨⟨ha, (List.getElem?_eq_some_iff.mp q1).1⟩, fun x H' ⟨e, k2, v2, q2, ex⟩ => ?_⟩
        subst e
        rw [q1] at q2
        cases q2
        exact ⟨G2, New.refl s2, ex ▸ rep_key kk⟩
      · have T2 := Step.unhide S hG hH hs he (.dK rr) T
        have fa := T.ext.h a _ upd_same na
        refine ⟨fa, k v G' _ T2 ?_⟩
        obtain ⟨x, o, ex, q1, q2, q3, q4, q5⟩ := r
        have hx : x ≠ a := by
          rintro rfl
          rcases q1 with q1 | q1
          · rw [upd_same] at q1
            cases q1
          · exact na q1
        refine ⟨x, o, ex, ?_, fun ⟨j, d2, f2, q, n, s⟩ => ?_, by rw [upd_ne hx]; exact q3, q4, q5⟩
        · rcases q1 with q1 | q1
          · rw [upd_ne hx] at q1
            exact .inl q1
          · exact .inr (hide_own ⟨_, he⟩ q1)
        · rcases set_at q with ⟨h1, w, _⟩ | ⟨hj, w⟩
          · subst h1
            rw [hs] at s
            cases s
            exact hx rfl
          · exact q2 ⟨j, d2, f2, w, n, s⟩
  · cases e1
theorem fe_lcK {i : Nat} {elt tg : Expr} {x : Str} {px : Pos} {ifs : List Expr} {scope : Scope} {own : List (Str × Nat)} {ts : List Nat} {s : Gv} {t : Tv} {f : Vv} (hc : X.calm = true) (hN : X.N.Nodup) (hx : PE X (.Name x px) (tVar i)) (ok : BlkOk X.N X.env.scope scope own) (hts : ∀ i ∈ ts, i ∈ own.map (·.2))
    (hg : ∀ (s' : Shared) (H : Hp) (C : Addr) (cl : List (Str × Addr)) (fp : List Addr), PG (X.blk s' H scope (compEnvC scope cl C X.env) fp) tg (FG Rep X.K ts s))
    (ht : ∀ (s' : Shared) (H : Hp) (C : Addr) (cl : List (Str × Addr)) (fp : List Addr), PTs (X.blk s' H scope (compEnvC scope cl C X.env) fp) ifs (FT X.K t))
    (he : ∀ (s' : Shared) (H : Hp) (C : Addr) (cl : List (Str × Addr)) (fp : List Addr), PE (X.blk s' H scope (compEnvC scope cl C X.env) fp) elt (FV X.K f)) (hs : ∀ y, foldedSetIterable (.Name x px) X.env y = pure y := by intro _; rfl) :
    PE X (.ListComp elt [⟨tg, .Name x px, ifs, 0⟩] scope pos) (FE X.K (fLcK (own.map (·.2)) i s t f)) := pe_imp (pe_lock (pe_lc hc hN (pi_keys hx) ok hg ht he hs)) fun _ _ _ h => lcK_of hts h
end
end Fx
/-! Fx22: the module's constants: tuples, and dicts with text keys that are asked by get. -/
namespace Fx
open PySem PySem.Spec L2
def conAll (f : Value → D → Bool) : List Value → List D → Bool
  | [], [] => true
  | u :: us, d :: ds => f u d && conAll f us ds
  | _, _ => false
def conB (K : PySem.W.Frag) : Nat → Value → D → Bool
  | 0, _, _ => false
  | n + 1, u, d => match u, d with
    | .int i _, .int j => decide (i = j)
    | .str z _, .str y => decide (z = y)
    | .bool a, .bool b => decide (a = b)
    | .none, .none => true
    | .ref a, .tuple ds => match K.lookup a with
      | some ⟨.type c, none, .seq its _, _⟩ => decide (c = "tuple") && (decide (its.size ≤ sizeLine) && conAll (conB K n) its.toList ds)
      | _ => false
    | _, _ => false
theorem conAll_ok {K : PySem.W.Frag} {f : Value → D → Bool} (hf : ∀ u d, f u d = true → ∃ v, RelV v u ∧ ∀ G, Rep K G v d) : ∀ {us : List Value} {ds : List D}, conAll f us ds = true → ∃ vs, Vals vs us ∧ ∀ G, Reps K G vs ds
  | [], [], _ => ⟨[], .nil, fun _ => .nil⟩
  | [], _ :: _, h => by cases h
  | _ :: _, [], h => by cases h
  | u :: us, d :: ds, h => by
    obtain ⟨h1, h2⟩ := Bool.and_eq_true_iff.mp (show (f u d && conAll f us ds) = true from h)
    obtain ⟨v, r, q⟩ := hf u d h1
    obtain ⟨vs, rs, qs⟩ := conAll_ok hf h2
    exact ⟨v :: vs, .cons r rs, fun G => .cons (q G) (qs G)⟩
theorem conB_ok {K : PySem.W.Frag} : ∀ (n : Nat) (u : Value) (d : D), conB K n u d = true → ∃ v, RelV v u ∧ ∀ G, Rep K G v d
  | 0, _, _, h => by cases h
  | n + 1, u, d, h => by
    unfold conB at h
    split at h
    · rename_i i t j
      have e := of_decide_eq_true h
      subst e
      exact ⟨.int i, ⟨t, rfl⟩, fun _ => .int _⟩
    · rename_i z t y
      have e := of_decide_eq_true h
      subst e
      exact ⟨.str z, ⟨t, rfl⟩, fun _ => .str _⟩
    · rename_i a b
      have e := of_decide_eq_true h
      subst e
      exact ⟨.bl a, rfl, fun _ => .bl _⟩
    · exact ⟨.non, rfl, fun _ => .non⟩
    · rename_i a ds
      split at h
      · rename_i c its k sl q
        obtain ⟨h1, h2⟩ := Bool.and_eq_true_iff.mp h
        obtain ⟨h3, h4⟩ := Bool.and_eq_true_iff.mp h2
        obtain ⟨vs, rs, qs⟩ := conAll_ok (conB_ok n) h4
        have ec := of_decide_eq_true h1
        subst ec
        exact ⟨.ref a, rfl, fun G => .tup (.inr ⟨_, its, k, q, rfl, rfl, rfl, of_decide_eq_true h3, rs⟩) (qs G)⟩
      · cases h
    · cases h
/-- the constant's value -/
def KTup (K : PySem.W.Frag) (mg : Str → Option Value) (x : Str) (d : D) : Prop := ∃ u v, mg x = some u ∧ RelV v u ∧ ∀ G, Rep K G v d
theorem fv_globT {X : Cx} {x : Str} {d : D} {pos : Pos} (h : KTup X.K X.mg x d) (hg : Gl X x := by rfl) (hd : (x == ("__debug__" : Str)) = false := by decide) : PE X (.Name x pos) (FV X.K (fC d)) :=
  let ⟨_, _, h1, h2, h3⟩ := h
  fv_glob h1 h2 h3 hg hd
/-! ### dicts that are asked -/
def lookS (kvs : List (Str × D)) (z : Str) : Option D := (kvs.find? fun q => decide (q.1 = z)).map (·.2)
def KGet (K : PySem.W.Frag) (w : World) (mg : Str → Option Value) (x : Str) (kvs : List (Str × D)) : Prop := ∃ a es n, mg x = some (.ref a) ∧ KDict K w a es n ∧ ∀ z, (∃ d u v, lookS kvs z = some d ∧ PySem.W.nsIn K a z = some (some u) ∧ RelV v u ∧ ∀ G, Rep K G v d) ∨ (lookS kvs z = none ∧ PySem.W.nsIn K a z = some none)
def rKGet (a : Addr) (kvs : List (Str × D)) (K : PySem.W.Frag) : V → List V → Hp → VK → Prop := fun x xs H Q => ∃ z, x = .ref a ∧ xs = [.str z] ∧ ((∃ v d, lookS kvs z = some d ∧ (∀ G, Rep K G v d) ∧ Q v H) ∨ (lookS kvs z = none ∧ Q .non H))
def kgetD (kvs : List (Str × D)) : D → Option (D × Bool)
  | .str z => some ((lookS kvs z).getD .none, false)
  | _ => none
section
variable {X : Cx} {e : Expr} {es : List Expr}
theorem mt_kget {a : Addr} {kvs : List (Str × D)} {ds : Array DictEntry} {n : Nat} (D0 : KDict X.K X.w a ds n) (h : ∀ z, (∃ d u v, lookS kvs z = some d ∧ PySem.W.nsIn X.K a z = some (some u) ∧ RelV v u ∧ ∀ G, Rep X.K G v d) ∨ (lookS kvs z = none ∧ PySem.W.nsIn X.K a z = some none)) :
    MtR X "dict.get" (fun x xs H Q => ∃ z, x = .ref a ∧ xs = [.str z] ∧ ∀ v, (∀ d, lookS kvs z = some d → ∀ G, Rep X.K G v d) → (lookS kvs z = none → v = .non) → Q v H) := by
  intro pins s σ H x xs v us Q I rx rxs ⟨z, e1, e2, q⟩
  subst e1 e2
  cases rx
  obtain ⟨u, rfl, ru⟩ := rxs.one
  obtain ⟨t, rfl⟩ := ru
  have mo := PySem.W.mapOf_K (prog := X.prog) (w := X.w) I.kIn D0.at_ D0.lit
  refine call_meetsIn PySem.F.slot_dict_get mo.typeIs PySem.F.entry_dict_get (PySem.F.args_dict_get_2 _ _) (meets_dict_get (strKind X.prog X.w) a (strKind_is X.prog X.w z t) D0.low) ⟨_, mo, ?_⟩
  rcases h z with ⟨d, u, v, h1, h2, h3, h4⟩ | ⟨h1, h2⟩
  · rw [PySem.W.find_K D0.at_ h2]
    exact ⟨v, H, I.tok _, h3, q v (fun d' e => by rw [h1] at e; cases e; exact h4) fun e => by rw [h1] at e; cases e⟩
  · rw [PySem.W.find_K D0.at_ h2]
    exact ⟨.non, H, I.tok _, rfl, q .non (fun d' e => by rw [h1] at e; cases e) fun _ => rfl⟩
theorem fe_kget {x : Str} {kvs : List (Str × D)} {p : Ov} {px apos cpos : Pos} (h : KGet X.K X.w X.mg x kvs) (ha : PE X e (FO X.K p)) (hg : Gl X x := by rfl) (hd : (x == ("__debug__" : Str)) = false := by decide)
    (hbase : attributeBase (.Name x px) "get" X.env (eval (.Name x px) X.env) = eval (.Name x px) X.env := by rfl)
    (hfew : ((backTo cpos (starEach [e] X.env)).all (fun x => !x.1) && (backToKw cpos (keywordEach [] X.env)).all (fun x => x.1.isSome)
      && decide ([e].length + ([] : List Keyword).length + (if ([] : List Keyword).isEmpty then 0 else 1) < 30)) = true := by rfl)
    (hline : (apos.endLine == cpos.line) = true := by rfl) (hs : starEach [e] X.env = (false, eval e X.env) :: starEach [] X.env := by rfl) (hplain : (backTo cpos (starEach [] X.env)).any (·.1) = false := by rfl) :
    PE X (.Call (.Attribute (.Name x px) "get" apos) [e] [] cpos) (FE X.K (f1 p (kgetD kvs))) := by
  obtain ⟨a, ds, n, hm, D0, hk⟩ := h
  have ht : TyOk X "dict" (fun y _ => y = .ref a) := by
    intro pins σ H s y v I r e
    subst e
    obtain rfl : v = Value.ref a := r
    have mo := PySem.W.mapOf_K (prog := X.prog) (w := X.w) I.kIn D0.at_ D0.lit
    exact ⟨mo.typeIs, fun b e => by cases e; exact ⟨_, I.kIn a _ D0.at_, rfl⟩⟩
  refine pe_imp (pe_mG ht PySem.F.plainAttrs_dict PySem.F.slot_dict_get PySem.F.type_dict_get (mt_kget D0 hk) (pe_glob hg hm (v := .ref a) rfl hd) (pa_cons ha pa_nil hs) hbase hfew hline hs hplain) fun σ H Q ⟨G, en, d, b, en', S, e1, k⟩ => ?_
  obtain ⟨⟨y, en1⟩, p1, e2⟩ := Option.bind_eq_some_iff.mp e1
  obtain ⟨d0, p3, e4⟩ := Option.bind_eq_some_iff.mp e2
  obtain ⟨⟨z', b'⟩, p5, e6⟩ := Option.map_eq_some_iff.mp e4
  cases e6
  refine ⟨rfl, G, en, y, en1, S, p1, fun v G1 H1 T1 r1 => ?_⟩
  have u1 := r1.use T1.sr p3
  unfold kgetD at p5
  split at p5
  · rename_i z
    cases p5
    refine ⟨z, rfl, by rw [u1.str], fun v2 h1 h2 => k v2 G1 H1 T1 ?_⟩
    cases hl : lookS kvs z with
    | none =>
      rw [h2 hl]
      exact .non
    | some d => exact h1 d hl G1
  · cases p5
end
/-! ### in the head -/
inductive Cst where
  | tup (x : Str) (d : D)
  | dic (x : Str) (kvs : List (Str × D))
def Cst.ok (K : PySem.W.Frag) : Cst → Bool
  | .tup x d => match PySem.W.nsIn K mainGlobals x with
    | some (some u) => conB K 8 u d
    | _ => false
  | .dic x kvs => He.eqO (PySem.W.nsIn K mainGlobals x) (some (some (.ref (He.ga K x)))) && kvs.all fun q => match PySem.W.nsIn K (He.ga K x) q.1 with
    | some (some u) => conB K 8 u q.2
    | _ => false
def tabsOf (cs : List Cst) : List He.Tab := cs.filterMap fun c => match c with
  | .tup _ _ => none
  | .dic x kvs => some (fun K => He.ga K x, kvs.map (·.1))
abbrev AlC : Type := He.AlT × Bool
def obsC (fa : List He.Fa) (fn : List He.DefD) (cs : List Cst) (K : PySem.W.Frag) : AlC := (He.obsT fa fn (tabsOf cs) K, cs.all fun c => c.ok K)
def valC (fn : List He.DefD) (cs : List Cst) (w : World) : AlC := (He.valT fn (tabsOf cs) w, true)
def obsCG (n : Nat) (fa : List He.Fa) (fn : List He.DefD) (cs : List Cst) (g : Addr → Option Obj) : AlC := obsC fa fn cs (He.frG g (He.asD g n))
def SaysC (fa : List He.Fa) (fn : List He.DefD) (cs : List Cst) (w : World) (K : PySem.W.Frag) : Prop := obsC fa fn cs K = valC fn cs w
def hookC (n : Nat) (fa : List He.Fa) (fn : List He.DefD) (cs : List Cst) : PySem.W.Hook where
  α := AlC
  obs := fun s => obsCG n fa fn cs s.heap.get?
  val := fun w => valC fn cs w
  says := fun w h => ∃ K : PySem.W.Frag, K.In h ∧ SaysC fa fn cs w K
  of := fun _ _ e => ⟨_, He.frG_in, e⟩
  keeps := fun _ _ _ ⟨K, hK, c⟩ k => ⟨K, PySem.W.Frag.In.keeps hK k, c⟩
theorem obsCG_eq {n : Nat} {fa : List He.Fa} {fn : List He.DefD} {cs : List Cst} {g : Addr → Option Obj} {s : Shared} (h : ∀ a, g a = s.heap.get? a) : obsCG n fa fn cs g = (hookC n fa fn cs).obs s := by
  have e : g = s.heap.get? := funext h
  rw [e] <;> rfl
section
variable {fa : List He.Fa} {fn : List He.DefD} {cs : List Cst} {w : World} {K : PySem.W.Frag} {h : Heap} {mg : Str → Option Value}
theorem SaysC.t (c : SaysC fa fn cs w K) : He.SaysT fa fn (tabsOf cs) w K := congrArg (fun z : AlC => z.1) c
theorem SaysC.d (c : SaysC fa fn cs w K) : He.SaysD fa fn K := c.t.d
theorem SaysC.c_ (c : SaysC fa fn cs w K) (i : Nat) {x : Cst} (hx : cs[i]? = some x := by rfl) : x.ok K = true :=
  List.all_eq_true.mp (show (cs.all fun c => c.ok K) = true from congrArg (fun z : AlC => z.2) c) x (List.mem_of_getElem? hx)
theorem SaysC.tup (c : SaysC fa fn cs w K) (X : K.In h) (G : h.Ns mainGlobals mg) (i : Nat) {x : Str} {d : D} (hx : cs[i]? = some (.tup x d) := by rfl) : KTup K mg x d := by
  have k := c.c_ i hx
  unfold Cst.ok at k
  dsimp only at k
  split at k
  · rename_i u e
    obtain ⟨v, r, q⟩ := conB_ok 8 _ _ k
    exact ⟨u, v, PySem.W.mg_of X G e, r, q⟩
  · cases k
theorem dic_none {a : Addr} {ks : List Str} {z : Str} (hd : He.dicW K a = some (He.keysIn w.params ks)) (hz : z ∉ ks) : PySem.W.nsIn K a z = some none := by
  unfold He.dicW at hd
  split at hd
  · rename_i c es n sl q
    split at hd
    · have e := Option.some.inj hd
      unfold PySem.W.nsIn
      rw [q]
      dsimp only
      have go : ∀ (l : List DictEntry) (ks : List Str), z ∉ ks → l.map He.keyOf = He.keysIn w.params ks → l.find? (·.key.isStr z) = none ∧ l.any (·.refKey) = false := by
        intro l
        induction l with
        | nil => intro ks _ _; exact ⟨rfl, rfl⟩
        | cons e0 l ih =>
          intro ks hz e
          cases ks with
          | nil => cases e
          | cons k ks =>
            have e' : He.keyOf e0 :: l.map He.keyOf = some (k, PyData.keyHash w.params k) :: He.keysIn w.params ks := e
            injection e' with h1 h2
            obtain ⟨i1, i2⟩ := ih ks (fun q => hz (List.mem_cons_of_mem _ q)) h2
            have ek : ∃ t, e0.key = .str k t := by
              unfold He.keyOf at h1
              split at h1
              · rename_i x t hx
                have := Option.some.inj h1
                obtain ⟨h5, _⟩ := Prod.mk.inj this
                exact ⟨t, by rw [hx, h5]⟩
              · cases h1
            obtain ⟨t, ek⟩ := ek
            have nz : ¬ k = z := fun q => hz (q ▸ List.mem_cons_self ..)
            refine ⟨?_, ?_⟩
            · rw [List.find?_cons]
              have : e0.key.isStr z = false := by
                rw [ek]
                simp [Value.isStr, nz]
              rw [this]
              exact i1
            · rw [List.any_cons, i2, Bool.or_false]
              unfold DictEntry.refKey
              rw [ek]
      obtain ⟨g1, g2⟩ := go es.toList ks hz e
      rw [g1, g2]
      rfl
    · cases hd
  · cases hd
theorem SaysC.dic (c : SaysC fa fn cs w K) (X : K.In h) (G : h.Ns mainGlobals mg) (i j : Nat) {x : Str} {kvs : List (Str × D)} (hx : cs[i]? = some (.dic x kvs) := by rfl) (ht : (tabsOf cs)[j]? = some (fun K => He.ga K x, kvs.map (·.1)) := by rfl) : KGet K w mg x kvs := by
  obtain ⟨k1, k2⟩ := Bool.and_eq_true_iff.mp (show (He.eqO (PySem.W.nsIn K mainGlobals x) (some (some (.ref (He.ga K x)))) && kvs.all fun q => match PySem.W.nsIn K (He.ga K x) q.1 with
    | some (some u) => conB K 8 u q.2
    | _ => false) = true from c.c_ i hx)
  obtain ⟨es, n, D0⟩ := c.t.tab j ht
  refine ⟨He.ga K x, es, n, PySem.W.mg_of X G (He.eqO_ok k1), D0, fun z => ?_⟩
  have e : (tabsOf cs).map (fun t => He.dicW K (t.1 K)) = (tabsOf cs).map fun t => some (He.keysIn w.params t.2) := congrArg (fun z : He.AlT => z.2) c.t
  have e2 : ((tabsOf cs).map fun t => He.dicW K (t.1 K))[j]? = ((tabsOf cs).map fun t => some (He.keysIn w.params t.2))[j]? := by rw [e]
  rw [List.getElem?_map, List.getElem?_map, ht] at e2
  have hd : He.dicW K (He.ga K x) = some (He.keysIn w.params (kvs.map (·.1))) := Option.some.inj e2
  cases hl : kvs.find? fun q => decide (q.1 = z) with
  | none =>
    refine .inr ⟨by unfold lookS; rw [hl]; rfl, dic_none hd fun hz => ?_⟩
    obtain ⟨q, hq, e⟩ := List.mem_map.mp hz
    have := List.find?_eq_none.mp hl q hq
    simp [e] at this
  | some q =>
    have h1 := List.find?_some hl
    have h2 := List.all_eq_true.mp k2 q (List.mem_of_find?_eq_some hl)
    simp only [decide_eq_true_eq] at h1
    rw [h1] at h2
    split at h2
    · rename_i u eu
      obtain ⟨v, r, qq⟩ := conB_ok 8 _ _ h2
      exact .inl ⟨q.2, u, v, by unfold lookS; rw [hl]; rfl, eu, r, qq⟩
    · cases h2
end
end Fx
/-! Fx23: zip and enumerate of lists in a comprehension or a for; xs.insert(0, x); xs.index(x). -/
namespace Fx
open PySem PySem.Spec L2
def zipD (ds es : List D) : List D := (ds.zip es).map fun p => .tuple [p.1, p.2]
def enumD (i : Nat) : List D → List D
  | [] => []
  | d :: ds => .tuple [.int (i : Nat), d] :: enumD (i + 1) ds
def itZ (l : Lv) : Lv := fun en => (l en).bind fun x => match x.1 with
  | [.list ds, .list es] => some (zipD ds es, x.2)
  | _ => none
def itEn (l : Lv) : Lv := fun en => (l en).bind fun x => match x.1 with
  | [.list ds] => some (enumD 0 ds, x.2)
  | _ => none
theorem enumD_length : ∀ (ds : List D) (i : Nat), (enumD i ds).length = ds.length
  | [], _ => rfl
  | _ :: ds, i => by rw [enumD, List.length_cons, List.length_cons, enumD_length ds]
theorem enumD_get : ∀ (ds : List D) (i k : Nat), (enumD i ds)[k]? = (ds[k]?).map fun d => .tuple [.int ((i + k : Nat) : Int), d]
  | [], _, _ => by simp [enumD]
  | d :: ds, i, 0 => by simp [enumD]
  | d :: ds, i, k + 1 => by
    rw [enumD, List.getElem?_cons_succ, List.getElem?_cons_succ, enumD_get ds (i + 1) k]
    congr 2
    funext d
    have : i + 1 + k = i + (k + 1) := by omega
    rw [this]
section
variable {X : Cx} {K : PySem.W.Frag} {G H : Hp}
theorem repP_new {p : Addr} {xs : List V} {ds : List D} (s : Same G H) (hp : H p = none) (r : Reps K G xs ds) : ∃ G', New G H G' (upd H p (.tup xs)) ∧ RepP K G' (.ref p) (.tuple ds) := by
  have N := New.shd (o := .tup xs) s hp
  exact ⟨_, N, p, xs, ds, rfl, rfl, .inl (.inl upd_same), r.mono N.ext.g⟩
theorem jok_zip {a b : Addr} {xs ys : List V} {ds es : List D} {G0 : Hp} (ha : SqL K G0 a xs) (rx : Reps K G0 xs ds) (hb : SqL K G0 b ys) (ry : Reps K G0 ys es) : JOk RepP K (Itz K a b) G0 (zipD ds es) := fun i G H s1 s2 => by
  have qa := (s1.trans s2).seq ha
  have qb := (s1.trans s2).seq hb
  have la := rx.length
  have lb := ry.length
  have hl : (zipD ds es).length = min ds.length es.length := by simp [zipD]
  refine ⟨fun hi => ⟨xs, ys, qa, qb, by omega⟩, fun d hd => ?_⟩
  unfold zipD at hd
  rw [List.getElem?_map] at hd
  obtain ⟨⟨d1, d2⟩, e1, e2⟩ := Option.map_eq_some_iff.mp hd
  subst e2
  obtain ⟨h1, h2⟩ := List.getElem?_zip_eq_some.mp e1
  obtain ⟨v, v1, v2⟩ := rx.get' h1
  obtain ⟨w, w1, w2⟩ := ry.get' h2
  refine ⟨⟨xs, ys, v, w, qa, qb, v1, w1⟩, fun x H' ⟨T, x1, y1, e3, hT, e4, k1, k2⟩ => ?_⟩
  subst e3 e4
  have z1 := k1 xs qa
  have z2 := k2 ys qb
  rw [v1] at z1
  rw [w1] at z2
  cases z1
  cases z2
  exact repP_new s2 hT (.cons (v2.mono s1) (.cons (w2.mono s1) .nil))
theorem jok_enum {a : Addr} {xs : List V} {ds : List D} {G0 : Hp} (ha : SqL K G0 a xs) (rx : Reps K G0 xs ds) : JOk RepP K (Ite K a) G0 (enumD 0 ds) := fun i G H s1 s2 => by
  have qa := (s1.trans s2).seq ha
  have la := rx.length
  have hl := enumD_length ds 0
  refine ⟨fun hi => ⟨xs, qa, by omega⟩, fun d hd => ?_⟩
  rw [enumD_get] at hd
  obtain ⟨d1, e1, e2⟩ := Option.map_eq_some_iff.mp hd
  subst e2
  obtain ⟨v, v1, v2⟩ := rx.get' e1
  refine ⟨⟨xs, v, qa, v1⟩, fun x H' ⟨T, x1, e3, hT, e4, k1⟩ => ?_⟩
  subst e3 e4
  have z1 := k1 xs qa
  rw [v1] at z1
  cases z1
  rw [Nat.zero_add]
  exact repP_new s2 hT (.cons (.int _) (.cons (v2.mono s1) .nil))
theorem fi_zip {e e2 : Expr} {l : Lv} {p pos tpos : Pos} {elts : List Expr} {kk : Nat} (hm : X.mg "zip" = none) (ha : PA X [e, e2] (FL X.K l)) (hg : Gl X "zip" := by rfl)
    (hs : starEach [e, e2] X.env = (false, eval e X.env) :: starEach [e2] X.env := by rfl) (hpl : (backTo pos (starEach [e2] X.env)).any (·.1) = false := by rfl) :
    PI X (.Tuple elts kk tpos) (.Call (.Name "zip" p) [e, e2] [] pos) (FI RepP X.K (itZ l)) :=
  pi_imp (pi_zip hg hm ha hs hpl) fun σ H R ⟨G, en, ds, en', S, e1, k⟩ => by
    obtain ⟨⟨ds1, en1⟩, p1, e2⟩ := Option.bind_eq_some_iff.mp e1
    dsimp only at e2
    split at e2
    · cases e2
      refine ⟨G, en, _, _, S, p1, fun vs G' H' T r => ?_⟩
      cases r with
      | cons r1 r =>
        cases r with
        | cons r2 r =>
          cases r
          cases r1 with
          | lst h1 q1 =>
            cases r2 with
            | lst h2 q2 => exact ⟨_, _, _, _, rfl, T.sr.sub.seq h1, T.sr.sub.seq h2, k _ _ _ T (jok_zip h1 q1 h2 q2)⟩
    · cases e2
theorem fi_enum {e : Expr} {l : Lv} {p pos tpos : Pos} {elts : List Expr} {kk : Nat} (hm : X.mg "enumerate" = none) (ha : PA X [e] (FL X.K l)) (hg : Gl X "enumerate" := by rfl)
    (hs : starEach [e] X.env = [(false, eval e X.env)] := by rfl) :
    PI X (.Tuple elts kk tpos) (.Call (.Name "enumerate" p) [e] [] pos) (FI RepP X.K (itEn l)) :=
  pi_imp (pi_enum hg hm ha hs) fun σ H R ⟨G, en, ds, en', S, e1, k⟩ => by
    obtain ⟨⟨ds1, en1⟩, p1, e2⟩ := Option.bind_eq_some_iff.mp e1
    dsimp only at e2
    split at e2
    · cases e2
      refine ⟨G, en, _, _, S, p1, fun vs G' H' T r => ?_⟩
      cases r with
      | cons r1 r =>
        cases r
        cases r1 with
        | lst h1 q1 => exact ⟨_, _, rfl, T.sr.sub.seq h1, k _ _ _ T (jok_enum h1 q1)⟩
    · cases e2
/-! ### xs.insert(0, x) -/
def rIns0 : V → List V → Hp → VK → Prop := fun x vs H Q => ∃ (l : Addr) (xs : List V) (i : Int) (y : V), x = .ref l ∧ vs = [.int i, y] ∧ H l = some (.lst xs) ∧ xs.length < sizeLine ∧ 0 ≤ i ∧ i < 2 ^ 63 ∧
    Q .non (upd H l (.lst (xs.take i.toNat ++ [y] ++ xs.drop i.toNat)))
theorem mt_ins : MtR X "list.insert" rIns0 := mt_insert
def mIns : D → List D → Option (D × Bool × D)
  | .list ds, [.int i, d] => if i = 0 ∧ ds.length < sizeLine then some (.none, false, .list (d :: ds)) else none
  | _, _ => none
theorem om_ins : OpM K rIns0 mIns := fun l o d xs ds z b d' G H Q s g h r rs e k => by
  unfold mIns at e
  split at e
  · obtain ⟨hh, e3⟩ := ite_some e
    obtain ⟨h0, hl⟩ := hh
    cases e3
    subst h0
    cases r with
    | lst q =>
      cases rs with
      | cons r1 r2 =>
        cases r1
        cases r2 with
        | cons r3 r4 =>
          cases r4
          refine ⟨l, _, 0, _, rfl, rfl, h, by rw [q.length]; exact hl, by decide, by decide, ?_⟩
          have := opM_upd (o' := .lst (_ :: _)) s g h (.lst (.cons r3 q)) .non k
          simpa using this
  · cases e
/-! ### xs.index(x), x is there -/
def dIdx : D → List D → Option (D × Bool)
  | .list ds, [d] => if (SeqAt.shaped d && SeqAt.shaped (.list ds)) = true then (ds.findIdx? fun z => PyData.eqv z d).map fun j => (.int (j : Nat), false) else none
  | _, _ => none
theorem or_idx : OpMR K (rIndexD K) dIdx := fun x d xs ds z b G H Q s u us hg k => by
  unfold dIdx at hg
  split at hg
  · rename_i es e
    obtain ⟨hl, hg⟩ := ite_some hg
    obtain ⟨h1, h2⟩ := Bool.and_eq_true_iff.mp hl
    obtain ⟨j, e1, e2⟩ := Option.map_eq_some_iff.mp hg
    cases e2
    obtain ⟨y, rfl, uy⟩ := us.one
    have dl := u.dp s (SeqAt.canLay_of_shaped h2)
    obtain ⟨a, ys, rfl, _, _⟩ := u.list s
    rw [List.findIdx?_eq_some_iff_getElem] at e1
    obtain ⟨hj, hz, hno⟩ := e1
    refine ⟨a, y, e, es, j, es[j], rfl, rfl, dl, uy.dp s (SeqAt.canLay_of_shaped h1), h2, h1, List.getElem?_eq_getElem hj, hz, fun m z' hm hz' => ?_, k _ G H (New.refl s) (Fresh.sh (.int _))⟩
    obtain ⟨hm2, rfl⟩ := List.getElem?_eq_some_iff.mp hz'
    have := hno m hm
    simpa using this
  · cases hg
end
end Fx
/-! Fx24: texts by their order. -/
namespace Fx
open PySem PySem.Spec L2
def dLeS : D → D → Option (D × Bool)
  | .str a, .str b => some (.bool (!decide (b.cps.toList < a.cps.toList)), false)
  | _, _ => none
def dLtS : D → D → Option (D × Bool)
  | .str a, .str b => some (.bool (decide (a.cps.toList < b.cps.toList)), false)
  | _, _ => none
theorem o2_leS {K : PySem.W.Frag} : Op2 K (fun x y H Q => ∃ i j, x = .str i ∧ y = .str j ∧ Q (.bl (!decide (j.cps.toList < i.cps.toList))) H) dLeS := fun x y d e z b G H Q s u1 u2 hg k => by
  unfold dLeS at hg
  split at hg
  · cases hg
    exact ⟨_, _, u1.str, u2.str, k _ G H (New.refl s) (Fresh.sh (.bl _))⟩
  · cases hg
theorem o2_ltS {K : PySem.W.Frag} : Op2 K (fun x y H Q => ∃ i j, x = .str i ∧ y = .str j ∧ Q (.bl (decide (i.cps.toList < j.cps.toList))) H) dLtS := fun x y d e z b G H Q s u1 u2 hg k => by
  unfold dLtS at hg
  split at hg
  · cases hg
    exact ⟨_, _, u1.str, u2.str, k _ G H (New.refl s) (Fresh.sh (.bl _))⟩
  · cases hg
end Fx
/-! Fx25: a call whose answer is flat: what it is given is lent for the call alone. -/
namespace Fx
open PySem PySem.Spec L2
def flatD : D → Bool
  | .none => true
  | .bool _ => true
  | .int _ => true
  | .str _ => true
  | _ => false
section
variable {K : PySem.W.Frag} {G G' H H' : Hp}
theorem RepO.here {o : HO} {d : D} {a : Addr} (h : H a = some o) (r : RepO K H o d) : Rep K H (.ref a) d := by
  cases r with
  | lst r => exact .lst (.inl (.inl h)) r
  | dK r => exact .dct (.inl h) r
theorem Use.rep {v : V} {d : D} (s : Same G H) (u : Use K G H v d) : Rep K H v d := by
  rcases u with u | ⟨a, o, rfl, h, r⟩
  · exact u.mono s
  · exact RepO.here h (r.mono s)
theorem Uses.reps (s : Same G H) : ∀ {vs : List V} {ds : List D}, Uses K G H vs ds → Reps K H vs ds
  | _, _, .nil => .nil
  | _, _, .cons u r => .cons (u.rep s) (Uses.reps s r)
theorem Rep.flat {v : V} {d : D} (r : Rep K G v d) (h : flatD d = true) : Rep K G' v d := by
  cases r with
  | non => exact .non
  | bl b => exact .bl b
  | int i => exact .int i
  | str x => exact .str x
  | tup _ _ => cases h
  | lst _ _ => cases h
  | dct _ _ => cases h
theorem Fresh.flat {v : V} {d : D} {b : Bool} {H1 : Hp} (r : Fresh K H G' H1 v d b) (h : flatD d = true) : Rep K G v d := by
  cases b with
  | false => exact Rep.flat (show Rep K G' v d from r) h
  | true =>
    obtain ⟨a, o, _, _, _, _, _, ro⟩ := (show ∃ a o, v = .ref a ∧ _ from r)
    cases ro <;> cases h
theorem New.back (s : Same G H) (N : New H H G' H') : New G H G H' :=
  ⟨⟨Same.refl _, N.ext.h, fun _ _ _ _ g => g, N.ext.t⟩, fun b o e => N.ext.h b o (s b o e) (fun z => z)⟩
end
def fCallB (np : Nat) (a : Av) (F : List D → Option (D × Bool)) : Ev := fun en => (a en).bind fun x => (lates x.2 x.1).bind fun ds => if ds.length = np then (F ds).bind fun z => if flatD z.1 = true then some (z.1, false, x.2) else none else none
section
variable {X : Cx} {k j np : Nat} {ps : List Str} {x : Str} {p pos : Pos} {e : Expr} {es : List Expr}
theorem fe_callLn {a : Av} {F0 : List D → Option (D × Bool)} (o : Ow X.prog X.w X.K X.mg X.base j x ps (sp0 X.K np F0)) (hr : Room k X.A) (ha : PA X (e :: es) (FA X.K a)) (hjk : j ≤ k := by decide)
    (hg : Gl X x := by rfl) (hdb : (x == ("__debug__" : Str)) = false := by decide) (he : starEach (e :: es) X.env = (false, eval e X.env) :: starEach es X.env := by rfl) (hpl : (backTo pos (starEach es X.env)).any (·.1) = false := by rfl) : PE X (.Call (.Name x p) (e :: es) [] pos) (FE X.K (fCallB np a F0)) :=
  let ⟨f, fd, hm, hk, hb, F⟩ := o
  pe_imp (pe_call F (hr.mono hjk) hg hm hk hb .nil (E := fun _ _ _ => False) (fun _ _ _ _ _ _ _ z => z.elim) ha hdb he hpl) fun σ H Q ⟨G, en, d, b, en', S, e1, k⟩ => by
    obtain ⟨⟨hs, en1⟩, p1, e2⟩ := Option.bind_eq_some_iff.mp e1
    obtain ⟨ds, p2, e3⟩ := Option.bind_eq_some_iff.mp e2
    obtain ⟨hl, e4⟩ := ite_some e3
    obtain ⟨⟨z, b'⟩, p5, e6⟩ := Option.bind_eq_some_iff.mp e4
    obtain ⟨hf, e7⟩ := ite_some e6
    cases e7
    refine ⟨G, en, hs, en1, S, p1, fun vs G1 H1 T r => ?_⟩
    have u := r.uses T.sr p2
    exact ⟨H1, ds, _, _, Same.refl _, by rw [List.append_nil]; exact u.reps T.sr.sub, hl, p5, fun v G' H' N F => k v G1 H' (T.trans ((N.back T.sr.sub).step T.sr)) (Res.sh (F.flat hf))⟩
end
end Fx
/-! Fx26: a call that is lent what it is given; its answer holds no list and no dict, or is a new one of such. -/
namespace Fx
open PySem PySem.Spec L2
mutual
def tupD : D → Bool
  | .none => true
  | .bool _ => true
  | .int _ => true
  | .str _ => true
  | .tuple ds => tupDs ds
  | _ => false
def tupDs : List D → Bool
  | [] => true
  | d :: ds => tupD d && tupDs ds
end
def okR : D → Bool → Bool
  | .list ds, true => tupDs ds
  | .dict es, true => es.all fun e => tupD e.2
  | d, _ => tupD d
section
variable {K : PySem.W.Frag} {G G' G2 H H' : Hp}
/-- what is lent: an object that is not shared -/
def Lent (G H : Hp) (vs : List V) (a : Addr) : Prop := V.ref a ∈ vs ∧ G a = none ∧ ∃ o d, H a = some o ∧ (∃ K G0, RepO K G0 o d)
open Classical in
noncomputable def plusL (G H : Hp) (vs : List V) : Hp := fun a => if Lent G H vs a then H a else G a
open Classical in
noncomputable def lessL (G H : Hp) (vs : List V) (G' : Hp) : Hp := fun a => if Lent G H vs a then none else G' a
theorem plusL_same {vs : List V} : Same G (plusL G H vs) := fun b u e => by
  unfold plusL
  rw [if_neg fun h => by rw [h.2.1] at e; cases e]
  exact e
theorem plusL_sub {vs : List V} (s : Same G H) : Same (plusL G H vs) H := fun b u e => by
  unfold plusL at e
  split at e
  · exact e
  · exact s b u e
theorem use_lent {vs : List V} {v : V} {d : D} (s : Same G H) (hv : v ∈ vs) (u : Use K G H v d) : Rep K (plusL G H vs) v d := by
  rcases u with u | ⟨a, o, rfl, h, r⟩
  · exact u.mono plusL_same
  · have e : plusL G H vs a = some o := by
      unfold plusL
      by_cases hl : Lent G H vs a
      · rw [if_pos hl]; exact h
      · rw [if_neg hl]
        cases hg : G a with
        | none => exact absurd ⟨hv, hg, o, d, h, K, G, r⟩ hl
        | some u =>
          have := s a u hg
          rw [h] at this
          exact this.symm
    exact (r.mono plusL_same).rep e
theorem uses_lent {ws : List V} (s : Same G H) : ∀ {vs : List V} {ds : List D}, (∀ v ∈ vs, v ∈ ws) → Uses K G H vs ds → Reps K (plusL G H ws) vs ds
  | _, _, _, .nil => .nil
  | _, _, hw, .cons u r => .cons (use_lent s (hw _ (List.mem_cons_self ..)) u) (uses_lent s (fun v hv => hw v (List.mem_cons_of_mem _ hv)) r)
theorem lent_not {vs : List V} {a : Addr} {o : Obj} {xs : List V} (s : Same (plusL G H vs) G') (e : G' a = some (.frz o (.tup xs))) : ¬ Lent G H vs a := fun h => by
  obtain ⟨_, _, u, d, hu, K, G0, r⟩ := id h
  have e1 : plusL G H vs a = some u := by
    unfold plusL
    rw [if_pos h]
    exact hu
  have e2 := s a u e1
  rw [e] at e2
  cases e2
  cases r
mutual
theorem rep_less {vs : List V} (s : Same (plusL G H vs) G') : ∀ {v : V} {d : D}, tupD d = true → Rep K G' v d → Rep K (lessL G H vs G') v d
  | _, _, _, .non => .non
  | _, _, _, .bl b => .bl b
  | _, _, _, .int i => .int i
  | _, _, _, .str x => .str x
  | _, .tuple ds, h, .tup t r => .tup (by
      rcases t with ⟨o, e, hd⟩ | t
      · refine .inl ⟨o, ?_, hd⟩
        unfold lessL
        rw [if_neg (lent_not s e)]
        exact e
      · exact .inr t) (reps_less s (by unfold tupD at h; exact h) r)
  | _, _, h, .lst _ _ => by simp [tupD] at h
  | _, _, h, .dct _ _ => by simp [tupD] at h
theorem reps_less {vs : List V} (s : Same (plusL G H vs) G') : ∀ {ws : List V} {ds : List D}, tupDs ds = true → Reps K G' ws ds → Reps K (lessL G H vs G') ws ds
  | _, _, _, .nil => .nil
  | _, _, h, .cons a b => by
    rw [tupDs, Bool.and_eq_true] at h
    exact .cons (rep_less s h.1 a) (reps_less s h.2 b)
end
theorem repKV_less {vs : List V} (s : Same (plusL G H vs) G') : ∀ {ws : List (Key × V)} {es : List (D × D)}, (es.all fun e => tupD e.2) = true → RepKV K G' ws es → RepKV K (lessL G H vs G') ws es
  | _, _, _, .nil => .nil
  | _, _, h, .cons a b => by
    rw [List.all_cons, Bool.and_eq_true] at h
    exact .cons (rep_less s h.1 a) (repKV_less s h.2 b)
theorem new_less {vs : List V} (s : Same G H) (N : New (plusL G H vs) H G' H') : New G H (lessL G H vs G') H' := by
  refine ⟨⟨fun b u e => ?_, N.ext.h, fun b u e n g => ?_, N.ext.t⟩, fun b u e => ?_⟩
  · have hl : ¬ Lent G H vs b := fun h => by rw [h.2.1] at e; cases e
    unfold lessL
    rw [if_neg hl]
    exact N.ext.g b u (plusL_same b u e)
  · unfold lessL
    by_cases hl : Lent G H vs b
    · rw [if_pos hl]
    · rw [if_neg hl]
      refine N.ext.n b u e n ?_
      unfold plusL
      rw [if_neg hl]
      exact g
  · unfold lessL at e
    split at e
    · cases e
    · exact N.sub b u e
theorem fresh_less {vs : List V} {v : V} {d : D} {b : Bool} (s : Same (plusL G H vs) G') (h : okR d b = true) (r : Fresh K H G' H' v d b) : Fresh K H (lessL G H vs G') H' v d b := by
  cases b with
  | false =>
    have ht : tupD d = true := by
      cases d <;> simpa [okR] using h
    exact rep_less s ht (show Rep K G' v d from r)
  | true =>
    obtain ⟨a, o, e, h1, h2, h3, h4, h5⟩ := (show ∃ a o, v = .ref a ∧ _ from r)
    refine ⟨a, o, e, h1, h2, h3, ?_, ?_⟩
    · unfold lessL
      split
      · rfl
      · exact h4
    · cases h5 with
      | lst q => exact .lst (reps_less s (by simpa [okR] using h) q)
      | dK q => exact .dK (repKV_less s (by simpa [okR] using h) q)
end
def fCallL (np : Nat) (a : Av) (F : List D → Option (D × Bool)) : Ev := fun en => (a en).bind fun x => (lates x.2 x.1).bind fun ds => if ds.length = np then (F ds).bind fun z => if okR z.1 z.2 = true then some (z.1, z.2, x.2) else none else none
section
variable {X : Cx} {k j np : Nat} {ps : List Str} {x : Str} {p pos : Pos} {e : Expr} {es : List Expr}
theorem fe_callLt {a : Av} {F0 : List D → Option (D × Bool)} (o : Ow X.prog X.w X.K X.mg X.base j x ps (sp0 X.K np F0)) (hr : Room k X.A) (ha : PA X (e :: es) (FA X.K a)) (hjk : j ≤ k := by decide)
    (hg : Gl X x := by rfl) (hdb : (x == ("__debug__" : Str)) = false := by decide) (he : starEach (e :: es) X.env = (false, eval e X.env) :: starEach es X.env := by rfl) (hpl : (backTo pos (starEach es X.env)).any (·.1) = false := by rfl) : PE X (.Call (.Name x p) (e :: es) [] pos) (FE X.K (fCallL np a F0)) :=
  let ⟨f, fd, hm, hk, hb, F⟩ := o
  pe_imp (pe_call F (hr.mono hjk) hg hm hk hb .nil (E := fun _ _ _ => False) (fun _ _ _ _ _ _ _ z => z.elim) ha hdb he hpl) fun σ H Q ⟨G, en, d, b, en', S, e1, k⟩ => by
    obtain ⟨⟨hs, en1⟩, p1, e2⟩ := Option.bind_eq_some_iff.mp e1
    obtain ⟨ds, p2, e3⟩ := Option.bind_eq_some_iff.mp e2
    obtain ⟨hl, e4⟩ := ite_some e3
    obtain ⟨⟨z, b'⟩, p5, e6⟩ := Option.bind_eq_some_iff.mp e4
    obtain ⟨hf, e7⟩ := ite_some e6
    cases e7
    refine ⟨G, en, hs, en1, S, p1, fun vs G1 H1 T r => ?_⟩
    have u := r.uses T.sr p2
    refine ⟨plusL G1 H1 vs, ds, _, _, plusL_sub T.sr.sub, by rw [List.append_nil]; exact uses_lent T.sr.sub (fun _ h => h) u, hl, p5, fun v G' H' N F => ?_⟩
    exact k v _ H' (T.trans ((new_less T.sr.sub N).step T.sr)) (Fresh.res' T (fresh_less N.ext.g hf F))
end
end Fx
/-! Fx27: t[::-1] of a tuple. -/
namespace HT
open PySem PySem.Spec PyProof.Rows
section
variable {prog : Program} {w : World} {A : Around} {E : Value → Shared → Prop} {s : Shared}
theorem applied_rev {sl : Addr} {vl vu vs : Value} {n : Nat} {R : Int × Int × Nat → Shared → Prop} (hs : s.heap.IsSliceOf sl vl vu vs) (pl : IsPart vl none) (pu : IsPart vu none) (ps : IsPart vs (some (-1)))
    (q : R ((n : Int) - 1, -1, n) s) : wpAny (model prog w) A (Builtin.Slice.sliceApplied (.ref sl) (pure (n : Int))) R E s := by
  obtain ⟨ob, h1, h2, h3⟩ := id hs
  unfold Builtin.Slice.sliceApplied Builtin.Slice.sliceFields
  refine wpAny_bind (wpAny_bind (wpAny_field h1 h3 (x := vl) rfl (wpAny_bind (wpAny_field h1 h3 (x := vu) rfl (wpAny_bind (wpAny_field h1 h3 (x := vs) rfl (wpAny_pure ?_)))))))
  refine wpAny_bind (slicePart_ ps ?_)
  show wpAny _ _ (if ((-1 : Int) == 0) = true then _ else _) _ _ s
  rw [if_neg (by decide)]
  refine wpAny_bind (slicePart_ pl (wpAny_bind (slicePart_ pu (wpAny_bind (wpAny_pure ?_)))))
  have e1 : Builtin.Slice.sliceAdjust none none (-1) (n : Int) = ((n : Int) - 1, -1) := by
    unfold Builtin.Slice.sliceAdjust
    simp
  have e2 : Builtin.Slice.slicePlaces ((n : Int) - 1) (-1) (-1) = n := by
    unfold Builtin.Slice.slicePlaces
    simp
    omega
  show wpAny _ _ (match Builtin.Slice.sliceAdjust none none (-1) (n : Int) with | (lo, hi) => pure (lo, (-1 : Int), Builtin.Slice.slicePlaces lo hi (-1))) _ _ s
  rw [e1]
  show wpAny _ _ (pure ((n : Int) - 1, (-1 : Int), Builtin.Slice.slicePlaces ((n : Int) - 1) (-1) (-1))) _ _ s
  rw [e2]
  exact wpAny_pure q
theorem fm_congr {α β : Type} {f g : α → Option β} : ∀ {l : List α}, (∀ x ∈ l, f x = g x) → l.filterMap f = l.filterMap g
  | [], _ => rfl
  | x :: l, h => by rw [List.filterMap_cons, List.filterMap_cons, h x (List.mem_cons_self ..), fm_congr fun y hy => h y (List.mem_cons_of_mem _ hy)]
theorem pick_rev (xs : Array Value) : ((List.range xs.size).filterMap fun (k : Nat) => xs[((xs.size : Int) - 1 + (k : Int) * (-1)).toNat]?).toArray = xs.toList.reverse.toArray := by
  congr 1
  have e : (List.range xs.size).filterMap (fun (k : Nat) => xs[((xs.size : Int) - 1 + (k : Int) * (-1)).toNat]?) = ((List.range xs.size).map fun k => xs.size - 1 - k).filterMap (xs[·]?) := by
    rw [List.filterMap_map]
    refine fm_congr fun k hk => ?_
    have := List.mem_range.mp hk
    have e2 : ((xs.size : Int) - 1 + (k : Int) * (-1)).toNat = xs.size - 1 - k := by omega
    simp only [Function.comp, e2]
  rw [e, PySem.W.krv_range, List.filterMap_reverse, PySem.W.krv_all]
theorem item_rev {t sl : Addr} {xs : Array Value} {vl vu vs : Value} {R : Value → Shared → Prop} (ht : IsTup s.heap t xs) (hs : s.heap.IsSliceOf sl vl vu vs) (pl : IsPart vl none) (pu : IsPart vu none) (ps : IsPart vs (some (-1)))
    (q : R (.ref s.heap.objs.size) { s with heap := s.heap.push { cls := .type "tuple", data := .seq xs.toList.reverse.toArray } }) (hz : xs.size ≤ sizeLine) : wpAny (model prog w) A (getItem (.ref t) (.ref sl)) R E s := by
  have ok : sizeOk (.seq xs.toList.reverse.toArray) := by
    show xs.toList.reverse.toArray.size ≤ sizeLine
    rw [List.size_toArray, List.length_reverse, Array.length_toList]
    exact hz
  obtain ⟨ob, h1, h2, _⟩ := id hs
  have ty : s.TypeIs (.ref sl) "slice" := ⟨ob, h1, h2⟩
  unfold getItem
  with_reducible refine wpAny_holding ?_
  refine wpAny_bind (wpAny_sequenceKey ht.typeIs (by decide) ?_)
  refine wpAny_bind (wpAny_callSpecial?_slot (name := Str.ofString "__getitem__") ht.typeIs PyProof.Rows.slot_tuple_getitem (wpAny_call_entry PyProof.Rows.slot_tuple_getitem ht.typeIs entry_tuple_getitem ?_ (args_tuple_getitem _ _)))
  show wpAny _ _ (Builtin.Tuple.tupleItemsOf (.ref t) >>= _) _ _ s
  refine wpAny_bind (tupleItemsOf_ ht (wpAny_bind (wpAny_typeOf ty ?_)))
  rw [if_pos (by decide)]
  refine wpAny_bind (applied_rev hs pl pu ps ?_)
  show wpAny _ _ (if (((xs.size : Int) - 1) == 0 && ((-1 : Int) == 1) && xs.size == xs.size) = true then _ else _) _ _ s
  rw [if_neg (by simp), pick_rev]
  first
    | exact wpAny_bind (m := Builtin.Tuple.tupleExact _) (wpAny_newObj_type (wpAny_pure ⟨_, rfl, wpAny_pure q⟩) ok)
    | exact wpAny_bind (m := Builtin.Tuple.tupleExact _) (wpAny_newObj_type (wpAny_bind (wpAny_pure (wpAny_pure ⟨_, rfl, wpAny_pure q⟩))) ok)
    | exact wpAny_bind (wpAny_bind (m := Builtin.Tuple.tupleExact _) (wpAny_newObj_type (wpAny_pure (wpAny_pure ⟨_, rfl, wpAny_pure q⟩)) ok))
    | exact wpAny_bind (wpAny_bind (m := Builtin.Tuple.tupleExact _) (wpAny_newObj_type (wpAny_pure ⟨_, rfl, wpAny_pure q⟩) ok))
end
end HT
namespace Fx
open PySem PySem.Spec L2
open PyProof.Rows (IntsAre Subscript_ tail_any)
section
variable {X : Cx} {e : Expr} {p1 p2 p3 pos : Pos}
/-- l[::-1], a list or a tuple -/
def rRevA (K : PySem.W.Frag) : V → Hp → VK → Prop := fun x H Q => rRev K x H Q ∨ ∃ a xs, x = .ref a ∧ SqT K H a xs ∧ ∀ p o, H p = none → o.dict = none → Q (.ref p) (upd H p (.frz o (.tup xs.reverse)))
theorem pe_revA {te : TE} {k : Nat} (he : PE X e te) : PE X (.Subscript e (.Slice none none (some (.UnaryOp .USub (.Constant (.int 1) k p1) p2)) p3) pos) (fun σ H Q => te σ H fun x H1 => rRevA X.K x H1 Q) := by
  refine ⟨fun pins s σ H Q I h => ?_⟩
  refine Subscript_ (thn (he.run pins s σ H _ I h) fun v s1 ⟨x, H1, I1, r1, q1⟩ => ?_)
  have hst : PO X (some (.UnaryOp .USub (.Constant (.int 1) k p1) p2)) (tPart (tUn (rU fun i => .int (-i)) (tC (.int 1)))) := po_some (pe_un un_neg pe_int)
  refine wpAny_Slice (thn (po_none.run pins s1 σ H1 (fun o H2 => o = none ∧ H2 = H1) I1 ⟨rfl, rfl⟩) fun vl s2 ⟨l, H2, I2, pl, el, e2⟩ => ?_)
  subst el e2
  refine thn (po_none.run pins s2 σ H2 (fun o H3 => o = none ∧ H3 = H2) I2 ⟨rfl, rfl⟩) fun vu s3 ⟨u, H3, I3, pu, eu, e3⟩ => ?_
  subst eu e3
  refine thn (hst.run pins s3 σ H3 (fun o H4 => o = some (-1) ∧ H4 = H3) I3 ⟨1, rfl, -1, rfl, rfl, rfl⟩) fun vs s4 ⟨o, H4, I4, ps, eo, e4⟩ => ?_
  subst eo e4
  have I5 : Inv X pins σ H4 { s4 with heap := s4.heap.push { cls := .type "slice", data := .fields #[vl, vu, vs] } } := I4.kept (t' := s4.toks) fun b ob q => Heap.get?_push_of_some _ q
  rcases q1 with ⟨a, xs, ex, hx, q⟩ | ⟨a, xs, ex, hx, q⟩
  · subst ex
    cases r1
    obtain ⟨its, r, ht, hz⟩ := I5.list hx
    have hlen := r.length
    refine tail_any (ops := [.ref a, .ref s4.heap.objs.size]) ht.isList.typeIs (PySem.slot_list_getitem.lookup) ?_ (by with_unfolding_all rfl)
    refine wpAny_getItem_list_slice ht.isList (Heap.IsSliceOf.new _ vl vu vs) pl pu ps (by decide) ?_ (by rw [List.size_toArray]; omega)
    rw [PySem.W.krv_pick]
    exact ⟨.ref _, _, I5.laid (t' := s4.toks) (o := .lst xs.reverse) (fun b ob q => Heap.get?_push_of_some _ q) (Nat.le_refl _) ⟨by rw [List.length_reverse]; exact hz, _, 0, r.reverse, Heap.get?_push_size _ rfl⟩, rfl, q _ (I5.hok.fresh (Nat.le_refl _))⟩
  · subst ex
    cases r1
    obtain ⟨its, r, ht, hz⟩ := I5.tuple hx
    have hlen := r.length
    refine tail_any (ops := [.ref a, .ref s4.heap.objs.size]) ht.typeIs (PyProof.Rows.slot_tuple_getitem.lookup) ?_ (by with_unfolding_all rfl)
    refine HT.item_rev ht (Heap.IsSliceOf.new _ vl vu vs) pl pu ps ?_ (by rw [List.size_toArray]; omega)
    have rr : Vals xs.reverse its.toArray.toList.reverse := by simpa using r.reverse
    exact ⟨.ref _, _, inv_tupZ I5 rr (by rw [List.length_reverse]; exact hz), rfl, q _ _ (I5.hok.fresh (Nat.le_refl _)) rfl⟩
def dRevA : D → Option (D × Bool)
  | .list ds => some (.list ds.reverse, true)
  | .tuple ds => some (.tuple ds.reverse, false)
  | _ => none
theorem o1_revA {K : PySem.W.Frag} : Op1 K (rRevA K) dRevA := fun x d z b G H Q s u hg k => by
  unfold dRevA at hg
  split at hg
  · cases hg
    obtain ⟨a, xs, rfl, h, r⟩ := u.list s
    exact .inl ⟨a, xs, rfl, h, fun p hp => k _ _ _ (New.own s hp) (Fresh.new s hp (.lst (reps_rev r)))⟩
  · cases hg
    obtain ⟨a, xs, rfl, h, r⟩ := u.tuple s
    refine .inr ⟨a, xs, rfl, h, fun p o hp ho => ?_⟩
    have N := New.shd (o := .frz o (.tup xs.reverse)) s hp
    exact k _ _ _ N (Fresh.sh (.tup (.inl ⟨o, upd_same, ho⟩) ((reps_rev r).mono N.ext.g)))
  · cases hg
theorem fe_revA {p : Ov} {k : Nat} (ha : PE X e (FO X.K p)) : PE X (.Subscript e (.Slice none none (some (.UnaryOp .USub (.Constant (.int 1) k p1) p2)) p3) pos) (FE X.K (f1 p dRevA)) :=
  pe_imp (pe_revA ha) fun _ _ _ h => t1_of (r := rRevA X.K) o1_revA h
end
end Fx
/-! Fx28: comprehensions over a list of this frame, which stays this frame's. -/
namespace Fx
open PySem PySem.Spec L2
def fLcO (vs : List Nat) (i : Nat) (s : Gv) (t : Tv) (f : Vv) : Ev := fun en => match en[i]? with
  | some (some (.list es, .own)) => (lcL vs s t f es (wipeE (en.set i none) vs)).bind fun y => if y.1.length ≤ sizeLine then some (.list y.1, true, (backE (en.set i none) y.2 vs).set i (some (.list es, .own))) else none
  | some (some (.list es, .sh)) => (lcL vs s t f es (wipeE en vs)).bind fun y => if y.1.length ≤ sizeLine then some (.list y.1, true, backE en y.2 vs) else none
  | _ => none
section
variable {K : PySem.W.Frag} {G H G1 H1 : Hp} {en : En} {σ : St} {i : Nat}
theorem jok2_list {a : Addr} {xs : List V} {ds : List D} {G0 H0 : Hp} {O : Addr → Prop} (h : ∀ H, Same G0 H → (∀ b o, H0 b = some o → ¬ O b → H b = some o) → SqL K H a xs) (r : Reps K G0 xs ds) : JOk2 Rep K (Itl K a) G0 H0 O ds := fun i G H s1 s2 pr => by
  have hq := h H (s1.trans s2) pr
  have hl := r.length
  refine ⟨fun hi => ⟨xs, hq, by omega⟩, fun d hd => ?_⟩
  obtain ⟨v, h1, h2⟩ := r.get' hd
  refine ⟨⟨xs, v, hq, h1⟩, fun x H' ⟨e, k⟩ => ?_⟩
  subst e
  have := k xs hq
  rw [h1] at this
  cases this
  exact ⟨G, New.refl s2, h2.mono s1⟩
theorem upd_id {a : Addr} {o : HO} (h : H a = some o) : upd H a o = H := funext fun b => by
  by_cases hb : b = a
  · rw [hb, upd_same, h]
  · rw [upd_ne hb]
theorem lcO_of {vs ts : List Nat} {s : Gv} {t : Tv} {f : Vv} (hts : ∀ i ∈ ts, i ∈ vs) {Q : VK} (h : FE K (fLcO vs i s t f) σ H Q) : tLc (iList K (tVar i)) (FG Rep K ts s) (FT K t) (FV K f) vs σ H Q := by
  obtain ⟨G, en, z, zb, en', S, e1, k⟩ := h
  unfold fLcO at e1
  split at e1
  · rename_i es he
    obtain ⟨⟨rs, en2⟩, p2, e2⟩ := Option.bind_eq_some_iff.mp e1
    obtain ⟨hz, e3⟩ := ite_some e2
    cases e3
    obtain ⟨a, o, hs, hG, hH, ro⟩ := S.own i _ .own he (fun z => by cases z)
    cases ro with
    | lst rr =>
      rename_i xs
      have S1 := S.hide (.lst xs) hG hs he
      rw [upd_id hH] at S1
      have na := hide_not S hs he
      refine ⟨.ref a, hs, a, rfl, ⟨xs, .inl (.inl hH)⟩, ?_⟩
      refine lcJ_of (R := Rep) (J := Itl K a) (Q := Q) hts S1 p2 hz (jok2_list (fun H' _ pr => .inl (.inl (pr a _ hH na))) rr) fun v G' H' T r => ?_
      have fa := T.ext.h a _ hH na
      have T2 := Step.unhide (o0 := .lst xs) S hG hH hs he (.lst rr) (by rw [upd_id hH]; exact T)
      rw [upd_id fa] at T2
      refine k v G' _ T2 ?_
      obtain ⟨x, o, ex, q1, q2, q3, q4, q5⟩ := r
      have hx : x ≠ a := by
        rintro rfl
        rcases q1 with q1 | q1
        · rw [hH] at q1
          cases q1
        · exact na q1
      refine ⟨x, o, ex, ?_, fun ⟨j, d2, f2, q, n, s⟩ => ?_, q3, q4, q5⟩
      · rcases q1 with q1 | q1
        · exact .inl q1
        · exact .inr (hide_own ⟨_, he⟩ q1)
      · rcases set_at q with ⟨h1, w, _⟩ | ⟨hj, w⟩
        · subst h1
          rw [hs] at s
          cases s
          exact hx rfl
        · exact q2 ⟨j, d2, f2, w, n, s⟩
  · rename_i es he
    obtain ⟨⟨rs, en2⟩, p2, e2⟩ := Option.bind_eq_some_iff.mp e1
    obtain ⟨hz, e3⟩ := ite_some e2
    cases e3
    obtain ⟨v, hs, r⟩ := S.shd i _ he
    cases r with
    | lst hq rr =>
      rename_i a xs
      refine ⟨.ref a, hs, a, rfl, ⟨_, S.sub.seq hq⟩, ?_⟩
      exact lcJ_of (R := Rep) (J := Itl K a) (Q := Q) hts S p2 hz (jok2_list (fun H' s1 _ => s1.seq hq) rr) fun v G' H' T r => k v G' H' T r
  · cases e1
end
section
variable {X : Cx} {e : Expr} {pos : Pos}
theorem fe_lcO {i : Nat} {elt tg : Expr} {x : Str} {px : Pos} {ifs : List Expr} {scope : Scope} {own : List (Str × Nat)} {ts : List Nat} {s : Gv} {t : Tv} {f : Vv} (hc : X.calm = true) (hN : X.N.Nodup) (hx : PE X (.Name x px) (tVar i)) (ok : BlkOk X.N X.env.scope scope own) (hts : ∀ i ∈ ts, i ∈ own.map (·.2))
    (hg : ∀ (s' : Shared) (H : Hp) (C : Addr) (cl : List (Str × Addr)) (fp : List Addr), PG (X.blk s' H scope (compEnvC scope cl C X.env) fp) tg (FG Rep X.K ts s))
    (ht : ∀ (s' : Shared) (H : Hp) (C : Addr) (cl : List (Str × Addr)) (fp : List Addr), PTs (X.blk s' H scope (compEnvC scope cl C X.env) fp) ifs (FT X.K t))
    (he : ∀ (s' : Shared) (H : Hp) (C : Addr) (cl : List (Str × Addr)) (fp : List Addr), PE (X.blk s' H scope (compEnvC scope cl C X.env) fp) elt (FV X.K f)) (hs : ∀ y, foldedSetIterable (.Name x px) X.env y = pure y := by intro _; rfl) :
    PE X (.ListComp elt [⟨tg, .Name x px, ifs, 0⟩] scope pos) (FE X.K (fLcO (own.map (·.2)) i s t f)) := pe_imp (pe_lc hc hN (pi_list hx) ok hg ht he hs) fun _ _ _ h => lcO_of hts h
theorem fs_setLcO {i j : Nat} {y : Str} {py spos : Pos} {elt tg : Expr} {x : Str} {px : Pos} {ifs : List Expr} {scope : Scope} {own : List (Str × Nat)} {ts : List Nat} {s : Gv} {t : Tv} {f : Vv} (hc : X.calm = true) (hN : X.N.Nodup) (hx : PE X (.Name x px) (tVar i)) (ok : BlkOk X.N X.env.scope scope own) (hts : ∀ i ∈ ts, i ∈ own.map (·.2))
    (hg : ∀ (s' : Shared) (H : Hp) (C : Addr) (cl : List (Str × Addr)) (fp : List Addr), PG (X.blk s' H scope (compEnvC scope cl C X.env) fp) tg (FG Rep X.K ts s))
    (ht : ∀ (s' : Shared) (H : Hp) (C : Addr) (cl : List (Str × Addr)) (fp : List Addr), PTs (X.blk s' H scope (compEnvC scope cl C X.env) fp) ifs (FT X.K t))
    (he : ∀ (s' : Shared) (H : Hp) (C : Addr) (cl : List (Str × Addr)) (fp : List Addr), PE (X.blk s' H scope (compEnvC scope cl C X.env) fp) elt (FV X.K f))
    (hy : X.N[j]? = some y := by rfl) (hyl : X.env.scope.names.lookup y = some .local := by rfl) (hsw : swapsWith (.ListComp elt [⟨tg, .Name x px, ifs, 0⟩] scope pos) (some (.Name y py)) spos.line X.env = pure true := by exact sw_true rfl rfl rfl (by decide +kernel)) (hs : ∀ z, foldedSetIterable (.Name x px) X.env z = pure z := by intro _; rfl) :
    PS X (.Assign [.Name y py] (.ListComp elt [⟨tg, .Name x px, ifs, 0⟩] scope pos) spos) (FS X.K (sSet j (fLcO (own.map (·.2)) i s t f))) := ps_imp (ps_setLc hc hN hy hyl hsw (pi_list hx) ok hg ht he hs) fun D σ H ⟨G, en, o, en', S, e1, k⟩ => by
  obtain ⟨⟨d, b, en1⟩, p1, e2⟩ := Option.bind_eq_some_iff.mp e1
  obtain ⟨hl, e3⟩ := ite_some e2
  cases e3
  exact lcO_of hts ⟨G, en, d, b, en1, S, p1, fun v G1 H1 T r => k G1 H1 _ (T.s.store hl r)⟩
end
end Fx
/-! Fx29: sets of whole numbers and texts: set(..), sorted(set(..)). -/
namespace Fx
open PySem PySem.Spec L2
open PyProof.Rows (IntsAre)
/-! ### a set of keys, its table rising -/
def kof : Value → Key
  | .int i _ => .inl i
  | .str x _ => .inr x
  | _ => .inl 0
theorem kof_is {k : Key} {v : Value} (h : keyIs k v = true) : kof v = k := by
  rcases keyIs_shape h with ⟨i, t, rfl, rfl⟩ | ⟨x, t, rfl, rfl⟩ <;> rfl
theorem key_sc {k : Key} {v : Value} (h : keyIs k v = true) : v.scannable = true := by
  rcases keyIs_shape h with ⟨i, t, rfl, rfl⟩ | ⟨x, t, rfl, rfl⟩ <;> rfl
section
variable {P : Program} {w : World}
def GoodK (P : Program) (w : World) (e : Int × Value) : Prop := ∃ k : Key, keyIs k e.2 = true ∧ e.1 = (mixKind P w).hash k
abbrev kE (e : Int × Value) : Key := kof e.2
/-- the keys at a: S its members, n their number -/
def SetG (P : Program) (w : World) (h : Heap) (a : Addr) (S : Key → Bool) (n : Nat) : Prop :=
  ∃ ob es ep tb, h.get? a = some ob ∧ ob.ExactSet ∧ ob.data = .set es ep tb ∧ (∀ e ∈ es.toList, GoodK P w e) ∧ (es.toList.map kE).Nodup ∧ (∀ k, S k = true ↔ k ∈ es.toList.map kE) ∧
    es.size < scanBound ∧ tb.fits es.size = true ∧ es.size = n ∧ Ris tb.place.toList ∧ (w.params.followText "set-order" = true ∨ tb.led = true)
theorem SetG.at {h h' : Heap} {a : Addr} {S : Key → Bool} {n : Nat} (R : SetG P w h a S n) (k : ∀ o, h.get? a = some o → h'.get? a = some o) : SetG P w h' a S n := by
  obtain ⟨ob, es, ep, tb, ho, r⟩ := R
  exact ⟨ob, es, ep, tb, k ob ho, r⟩
theorem SetG.congr {h : Heap} {a : Addr} {S S' : Key → Bool} {n : Nat} (R : SetG P w h a S n) (e : ∀ k, S' k = S k) : SetG P w h a S' n := by
  have : S' = S := funext e
  rw [this]
  exact R
def inK (ks : List Key) (j : Key) : Bool := ks.any fun q => decide (q = j)
theorem inK_iff {ks : List Key} {j : Key} : inK ks j = true ↔ j ∈ ks := by
  unfold inK
  rw [List.any_eq_true]
  exact ⟨fun ⟨q, h, e⟩ => of_decide_eq_true e ▸ h, fun h => ⟨j, h, decide_eq_true rfl⟩⟩
theorem inK_snoc (ks : List Key) (z j : Key) : inK (ks ++ [z]) j = (inK ks j || decide (j = z)) := by
  unfold inK
  rw [List.any_append]
  congr 1
  simp [eq_comm]
theorem elemsK {l : List (Int × Value)} (g : ∀ e ∈ l, GoodK P w e) : ElemsOf (mixKind P w) l := fun e he => by
  obtain ⟨k, h1, h2⟩ := g e he
  exact ⟨⟨k, h1, h2⟩, key_sc h1⟩
theorem isK {e : Int × Value} (g : GoodK P w e) (k : Key) : (mixKind P w).is k e.2 = true ↔ kE e = k := by
  obtain ⟨k0, h1, _⟩ := g
  have e0 : kE e = k0 := kof_is h1
  constructor
  · intro h
    exact kof_is h
  · intro h
    rw [← h, e0]
    exact h1
theorem memK {l : List (Int × Value)} (g : ∀ e ∈ l, GoodK P w e) (k : Key) : k ∈ l.map kE ↔ ∃ e ∈ l, (mixKind P w).is k e.2 = true := by
  rw [List.mem_map]
  exact ⟨fun ⟨e, he, q⟩ => ⟨e, he, (isK (g e he) k).2 q⟩, fun ⟨e, he, q⟩ => ⟨e, he, (isK (g e he) k).1 q⟩⟩
end
section
variable {P : Program} {w : World} {A : Around} {E : Value → Shared → Prop} {s : Shared} {a : Addr} {S : Key → Bool} {n : Nat}
theorem setG_tail {g : Bool → Sem Unit} (hg : ∀ (c : Bool) (s₁ : Shared) (T : Unit → Shared → Prop), T () s₁ → wpAny (model P w) A (g c) T E s₁)
    {ob : Obj} {es : Array (Int × Value)} {ep : Nat} {tb : SetTable} (ho : s.heap.get? a = some ob) (hx : ob.ExactSet) (hd : ob.data = .set es ep tb)
    {fs : Array (Int × Value)} {tc : SetTable} {S1 : Key → Bool} (q1 : ∀ e ∈ fs.toList, GoodK P w e) (q2 : (fs.toList.map kE).Nodup) (q3 : ∀ k, S1 k = true ↔ k ∈ fs.toList.map kE)
    (q4 : fs.size < scanBound) (q5 : tc.fits fs.size = true) (q6 : Ris tc.place.toList) (q7 : w.params.followText "set-order" = true ∨ tc.led = true) {was : Bool} {R : Option Bool → Shared → Prop}
    (hR : ∀ h1, Heap.SameBut a s.heap h1 → SetG P w h1 a S1 fs.size → R (some true) { s with heap := h1 }) :
    wpAny (model P w) A (do
        storeSet a fs tc
        if (!was && tc.tooFull) = true then do
            g (relayAll tc fs (SetTable.grown fs.size)).2.2
            storeSet a (relayAll tc fs (SetTable.grown fs.size)).1 (relayAll tc fs (SetTable.grown fs.size)).2.1
            pure (some true)
          else pure (some true)) R E s := by
  refine wpAny_bind (wpAny_storeSet_of ho hd ?_ (fits_of_scanBound q4))
  have o1 := store_at (es' := fs) (t' := tc) ho hd
  have b1 := Heap.SameBut.update s.heap a (Obj.putSet fs tc)
  split
  · have r1 := relayAll_perm tc fs (SetTable.grown fs.size)
    have r2 := relayAll_fits tc fs (SetTable.grown fs.size)
    have r3 := relayAll_ris tc fs (SetTable.grown fs.size)
    have r4 := relayAll_led tc fs (SetTable.grown fs.size)
    generalize relayAll tc fs (SetTable.grown fs.size) = Z at r1 r2 r3 r4 ⊢
    obtain ⟨gs, td, gave⟩ := Z
    dsimp only at r1 r2 r3 r4 ⊢
    have z1 : gs.size = fs.size := by rw [← Array.length_toList, r1.length_eq, Array.length_toList]
    have z2 : gs.size < scanBound := by rw [z1]; exact q4
    refine wpAny_bind (hg _ _ _ (wpAny_bind (wpAny_storeSet_of o1 rfl ?_ (fits_of_scanBound z2))))
    refine wpAny_pure (hR _ (b1.trans (Heap.SameBut.update _ a _)) ?_)
    exact ⟨_, gs, _, td, store_at (es' := gs) (t' := td) o1 rfl, hx, rfl, fun e he => q1 e (r1.mem_iff.mp he), (r1.map kE).nodup_iff.mpr q2, fun k => (q3 k).trans (r1.map kE).mem_iff.symm, z2, r2, z1, r3, q7.imp id fun z => by rw [r4]; exact z⟩
  · exact wpAny_pure (hR _ b1 ⟨_, fs, _, tc, o1, hx, rfl, q1, q2, q3, q4, q5, rfl, q6, q7⟩)
theorem setG_add {k : Key} {v : Value} {T : Bool → Shared → Prop} (hv : keyIs k v = true) (R : SetG P w s.heap a S n) (room : n + 1 < scanBound)
    (hT : ∀ h1, Heap.SameBut a s.heap h1 → SetG P w h1 a (fun j => S j || decide (j = k)) (if S k = true then n else n + 1) → T (!S k) { s with heap := h1 }) :
    wpAny (model P w) A (setAddHashed a v ((mixKind P w).hash k)) T E s := by
  obtain ⟨ob, es, ep, tb, ho, hx, hd, g, nd, hm, hb, hf, hn, hr, hl⟩ := R
  have hk : (mixKind P w).is k v = true := hv
  have sc := key_sc hv
  have el : ElemsOf (mixKind P w) es.toList := elemsK g
  unfold setAddHashed setAddHashedIn
  refine wpAny_holding (wpAny_bind (wpAny_setState_of ho hd hf ?_))
  dsimp only
  rw [byScan_of sc hb el]
  simp only [↓reduceIte]
  unfold setAddByScan
  refine wpAny_bind (wpAny_bind (wpAny_rule ?_))
  refine wpAny_bind (wpAny_setScan_of hk ho hd hf el ?_)
  cases hi : List.findIdx? (fun e => (mixKind P w).is k e.2) es.toList with
  | some j =>
    dsimp only
    obtain ⟨hj, pj, _⟩ := List.findIdx?_eq_some_iff_getElem.mp hi
    have sk : S k = true := (hm k).2 ((memK g k).2 ⟨es.toList[j], List.getElem_mem hj, pj⟩)
    refine wpAny_pure (wpAny_pure ?_)
    have q := hT s.heap (Heap.SameBut.refl a s.heap) ⟨ob, es, ep, tb, ho, hx, hd, g, nd, fun i => by
      rw [Bool.or_eq_true, decide_eq_true_eq, ← hm i]
      exact ⟨fun z => z.elim id (fun e => e ▸ sk), .inl⟩, hb, hf, by rw [if_pos sk]; exact hn, hr, hl⟩
    rw [sk] at q
    exact q
  | none =>
    dsimp only
    have nk : k ∉ es.toList.map kE := fun z => by
      obtain ⟨e, he, q⟩ := (memK g k).1 z
      have c := List.findIdx?_eq_none_iff.mp hi e he
      rw [q] at c
      cases c
    have sk : S k = false := by
      cases q : S k with
      | false => rfl
      | true => exact absurd ((hm k).1 q) nk
    have gw : ∀ (c : Bool) {s₁ : Shared} {Z : Unit → Shared → Prop}, Z () s₁ → wpAny (model P w) A (match c with | true => rule "set.scan.the-table-gave-way" | false => pure ()) Z E s₁ :=
      fun c s₁ Z q => by cases c <;> first | exact wpAny_pure q | exact wpAny_rule q
    have m1 := layNew_perm tb es ((mixKind P w).hash k) v
    have m2 := layNew_fits tb es ((mixKind P w).hash k) v
    have m3 := layNew_ris tb es ((mixKind P w).hash k) v hr
    have m4 := layNew_led tb es ((mixKind P w).hash k) v
    generalize layNew tb es ((mixKind P w).hash k) v = Z at m1 m2 m3 m4 ⊢
    obtain ⟨fs, tc, was, gave⟩ := Z
    dsimp only at m1 m2 m3 m4 ⊢
    rw [Array.toList_push] at m1
    have pc : fs.toList.Perm (((mixKind P w).hash k, v) :: es.toList) := m1.trans (List.perm_append_singleton _ _)
    have pk : (fs.toList.map kE).Perm (k :: es.toList.map kE) := by
      have := pc.map kE
      rw [List.map_cons] at this
      have e0 : kE ((mixKind P w).hash k, v) = k := kof_is hv
      rw [e0] at this
      exact this
    have q1 : ∀ e ∈ fs.toList, GoodK P w e := fun e he => by
      rcases List.mem_cons.mp (pc.mem_iff.mp he) with z | z
      · rw [z]; exact ⟨k, hv, rfl⟩
      · exact g e z
    have q2 : (fs.toList.map kE).Nodup := pk.nodup_iff.mpr (List.nodup_cons.mpr ⟨nk, nd⟩)
    have q3 : ∀ i, (S i || decide (i = k)) = true ↔ i ∈ fs.toList.map kE := fun i => by
      rw [Bool.or_eq_true, decide_eq_true_eq, hm i, pk.mem_iff, List.mem_cons]
      exact Or.comm
    have z1 : fs.size = n + 1 := by rw [← Array.length_toList, pc.length_eq, List.length_cons, Array.length_toList, hn]
    have z2 : fs.size < scanBound := by rw [z1]; exact room
    have ld : w.params.followText "set-order" = true ∨ tc.led = true := hl.imp id fun z => by rw [m4]; exact z
    have fin : ∀ h1, Heap.SameBut a s.heap h1 → SetG P w h1 a (fun j => S j || decide (j = k)) fs.size → T true { s with heap := h1 } := fun h1 sb r => by
      have q := hT h1 sb
      rw [sk] at q
      rw [z1] at r
      exact q r
    refine wpAny_bind (gw _ ?_)
    split
    · refine wpAny_bind ?_
      rw [hashByValue_scannable 8 sc]
      refine wpAny_pure (setG_tail ?_ ho hx hd q1 q2 q3 z2 ?_ ?_ ?_ ?_)
      · intro c s₁ Z q; cases c <;> first | exact wpAny_pure q | exact wpAny_rule q
      · first | (split <;> first | exact m2 | exact SetTable.fits_plain_off m2) | exact m2
      · first | (split <;> exact m3) | exact m3
      · first | (split <;> exact ld) | exact ld
      · intro h1 sb r; dsimp only; exact wpAny_pure (fin h1 sb r)
    · refine wpAny_bind (wpAny_pure ?_)
      simp only [↓reduceIte]
      refine setG_tail ?_ ho hx hd q1 q2 q3 z2 m2 m3 ld ?_
      · intro c s₁ Z q; cases c <;> first | exact wpAny_pure q | exact wpAny_rule q
      · intro h1 sb r; dsimp only; exact wpAny_pure (fin h1 sb r)
theorem setG_new_at {h : Heap} {ks : List Key} (ho : h.get? a = some { cls := .type "set", dict := none, data := .set #[] 0 (.fresh 0 0 (!w.params.followText "set-order")) }) : SetG P w h a (fun j => inK (ks.take 0) j) 0 :=
  ⟨_, #[], 0, _, ho, ⟨rfl, rfl, rfl⟩, rfl, (fun e he => by simp at he), (by simp), (fun k => by simp [inK]), (by decide), (by rfl), rfl, List.Pairwise.nil, by
    show _ ∨ (!w.params.followText "set-order") = true
    cases w.params.followText "set-order"
    · exact .inr rfl
    · exact .inl rfl⟩
theorem setG_loop {I : Addr} {fp wr : List Addr} {G : Array GenState → Array GenState → Prop} {m : Nat} {Pv : Nat → Value → Prop} {St : Nat → Shared → Prop} {R : Result → Shared → Prop}
    (W : WalksS P w A.in1 I fp wr G m Pv St) (D : Addr) (hD : D ∉ fp) (ks : List Key) (hm : m = ks.length) (hb : ks.length + 1 < scanBound) (val : ∀ i v, Pv i v → ∃ k, ks[i]? = some k ∧ keyIs k v = true) :
    ∀ (j i : Nat) (s : Shared), m - i = j → i ≤ m → St i s → (∃ c, c ≤ i ∧ SetG P w s.heap D (fun k => inK (ks.take i) k) c) →
      (∀ s1 c, Moved (D :: wr) G s s1 → c ≤ m → SetG P w s1.heap D (fun k => inK ks k) c → R (.ok (.ret .none)) s1) →
      codeAny (model P w) A (.builtin "set.update.loop" ⟨[.ref D, .ref I], []⟩) R s := by
  have nw : D ∉ wr := fun h => hD (W.sub _ h)
  have sub : ∀ b ∈ wr, b ∈ D :: wr := fun b hb => List.mem_cons_of_mem _ hb
  intro j
  induction j with
  | zero =>
    intro i s hj hi st ⟨c, hc, hS⟩ hR
    have e0 : i = m := by omega
    subst e0
    refine codeAny_builtin PyProof.Rows.F.entry_set_update_loop ?_
    rw [Around.under_plainId PyProof.Rows.F.plain_set_update_loop _]
    show wpAny _ A.in1 (pyNext (.ref I) >>= _) _ _ s
    refine wpAny_bind (W.done s _ _ st fun s1 hm1 => ?_)
    show wpAny _ A.in1 (ret Value.none) _ _ s1
    have e : ks.take i = ks := List.take_of_length_le (by omega)
    rw [e] at hS
    exact wpAny_pure (hR s1 c (hm1.mono sub) hc (hS.at fun o e => hm1.heap D o nw e))
  | succ j ih =>
    intro i s hj hi st ⟨c, hc, hS⟩ hR
    have lt : i < m := by omega
    refine codeAny_builtin PyProof.Rows.F.entry_set_update_loop ?_
    rw [Around.under_plainId PyProof.Rows.F.plain_set_update_loop _]
    show wpAny _ A.in1 (pyNext (.ref I) >>= _) _ _ s
    refine wpAny_bind (W.item i s _ _ lt st fun v s1 hP st1 hm1 => ?_)
    obtain ⟨z, hz, hv⟩ := val i v hP
    have hS1 : SetG P w s1.heap D (fun k => inK (ks.take i) k) c := hS.at fun o e => hm1.heap D o nw e
    show wpAny _ A.in1 (holding [v] (setAdd D v) >>= _) _ _ s1
    refine wpAny_bind (wpAny_holding ?_)
    unfold setAdd
    refine wpAny_holding (wpAny_bind ((mixKind P w).pyHash (k := z) hv ?_))
    refine setG_add (s := { s1 with toks := s1.toks + 1 }) hv hS1 (by omega) fun h1 sb hS2 => ?_
    have hS3 : SetG P w h1 D (fun k => inK (ks.take (i + 1)) k) (if inK (ks.take i) z = true then c else c + 1) := hS2.congr fun k => by
      rw [List.take_add_one, hz]
      exact inK_snoc _ _ _
    have hc3 : (if inK (ks.take i) z = true then c else c + 1) ≤ i + 1 := by
      split <;> omega
    refine wpAny_pure ⟨plainId_quiet PyProof.Rows.F.plain_set_update_loop _, ih (i + 1) _ (by omega) lt (W.frame _ s1 _ _ st1 (Nat.le_succ _) fun b hb o e => ?_) ⟨_, hc3, hS3⟩ fun s2 c2 hm2 hc2 hS4 => ?_⟩
    · rw [sb.2 b (fun h : b = D => hD (by rw [← h]; exact hb))]; exact e
    · refine hR s2 c2 (Moved.trans W.gtrans ((hm1.mono sub).then_heap (Nat.le_succ _) fun b o hb e => ?_) hm2) hc2 hS4
      rw [sb.2 b (fun h : b = D => hb (by rw [h]; exact List.mem_cons_self))]; exact e
end
section
variable {P : Program} {w : World} {A : Around} {E : Value → Shared → Prop} {s : Shared}
/-- set(l) of a list of keys -/
theorem setG_of {a : Addr} {vs : Array Value} (ks : List Key) {Q : Value → Shared → Prop} (nh : A.handled = none) (hL : s.heap.IsList a vs) (hV : ∀ (i : Nat) (v : Value), vs[i]? = some v → ∃ k, ks[i]? = some k ∧ keyIs k v = true) (vz : vs.size = ks.length) (hB : ks.length + 1 < scanBound)
    (k : ∀ (g : Heap) (tk c : Nat), SetG P w g s.heap.objs.size (fun j => inK ks j) c → c ≤ ks.length → (∀ b o, s.heap.get? b = some o → g.get? b = some o) → Q (.ref s.heap.objs.size) { s with heap := g, toks := tk }) :
    wpAny (model P w) A (call (.type "set") [.ref a]) Q E s := by
  obtain ⟨cm, tm, mro⟩ := F.called_set.mro
  have made := F.called_set.made
  have subs := F.called_set.sub
  refine wpAny_call (codeAny_of_tree ?_)
  show wpAny _ _ (callAny (.type "set") _) _ _ _
  refine wpAny_pure ⟨Code.quiet_builtin _ (by decide +kernel), codeAny_builtin F.entry_type_call ?_⟩
  rw [Around.under_plain (weight_type_call_type "set" [.ref a] []) rfl]
  have f1 := F.called_set.notType
  have f2 := F.called_set.canCreate
  have f3 := F.typeCall_set_1 (.ref a)
  repeat (any_goals (first | assumption | wp_step))

  refine codeAny_mono (code_set_led1 (.ref a) (E := E) (Q₁ := fun r u => r = .ref s.heap.objs.size ∧ u = { s with heap := s.heap.push { cls := .type "set", dict := none, data := .set #[] 0 (.fresh 0 0 (!w.params.followText "set-order")) } }) ⟨rfl, rfl⟩) fun r u hr => ?_
  cases r with
  | error x => exact hr
  | ok fl =>
    cases fl with
    | ret ob =>
      obtain ⟨rfl, rfl⟩ := hr
      have at0 : (s.heap.push ({ cls := .type "set", dict := none, data := .set #[] 0 (.fresh 0 0 (!w.params.followText "set-order")) })).get? s.heap.objs.size = some { cls := .type "set", dict := none, data := .set #[] 0 (.fresh 0 0 (!w.params.followText "set-order")) } := Heap.get?_push_size _ rfl
      have ty0 : Shared.TypeIs { s with heap := s.heap.push ({ cls := .type "set", dict := none, data := .set #[] 0 (.fresh 0 0 (!w.params.followText "set-order")) }) } (.ref s.heap.objs.size) "set" := ⟨_, at0, rfl⟩
      have li := F.called_set.init.lookup
      have bi := F.called_set.init.bind (.ref s.heap.objs.size)
      repeat (any_goals (first | assumption | wp_step))

      refine codeAny_mono (codeAny_call_builtin (R := wants (fun r t => r = .none ∧ ∃ g tk c, t = { s with heap := g, toks := tk } ∧ SetG P w g s.heap.objs.size (fun j => inK ks j) c ∧ c ≤ ks.length ∧ ∀ b o, s.heap.get? b = some o → g.get? b = some o) E)
        F.called_set.init.plain F.entry_set_init (check_set_init_1 ty0 ?_)) fun r t ht => ?_
      · obtain ⟨ol, oa, oc, no, od⟩ := hL
        obtain ⟨lc, ld, ldat, ls⟩ := ol
        simp only at oc od
        subst oc; subst od
        have oa' : (s.heap.push ({ cls := .type "set", dict := none, data := .set #[] 0 (.fresh 0 0 (!w.params.followText "set-order")) })).get? a = some { cls := .type "list", dict := ld, data := .seq vs no, slots := ls } := Heap.get?_push_of_some _ oa
        have g1 := F.sub_list_set
        have g2 := F.sub_list_frozenset
        have g3 : (Value.type "list" == Value.type "dict") = false := by decide
        have L1 : (s.heap.push ({ cls := .type "set", dict := none, data := .set #[] 0 (.fresh 0 0 (!w.params.followText "set-order")) })).IsList a vs := ⟨_, oa', rfl, no, rfl⟩
        unfold Builtin.«set.__init__» noKeywords Builtin.Frozenset.updateFrom
        generalize eP : pyIter = PI
        wp_walk
        subst eP

        refine wpAny_pyIter_list (s := { s with heap := s.heap.push ({ cls := .type "set", dict := none, data := .set #[] 0 (.fresh 0 0 (!w.params.followText "set-order")) }) }) L1 ?_
        refine wpAny_bind (wpAny_runValue ?_)
        have ltA : a < s.heap.objs.size := Heap.lt_size oa
        have nh3 : A.in1.in1.in1.handled = none := by simp [nh]
        have szN : (s.heap.push ({ cls := .type "set", dict := none, data := .set #[] 0 (.fresh 0 0 (!w.params.followText "set-order")) })).objs.size = s.heap.objs.size + 1 := Heap.size_push ..
        have neI : a ≠ (s.heap.push ({ cls := .type "set", dict := none, data := .set #[] 0 (.fresh 0 0 (!w.params.followText "set-order")) })).objs.size := by rw [szN]; exact Nat.ne_of_lt (Nat.lt_succ_of_lt ltA)
        have offS : s.heap.objs.size ∉ [(s.heap.push ({ cls := .type "set", dict := none, data := .set #[] 0 (.fresh 0 0 (!w.params.followText "set-order")) })).objs.size, a] := by
          rw [szN]
          simp only [List.mem_cons, List.not_mem_nil, or_false, not_or]
          exact ⟨Nat.ne_of_lt (Nat.lt_succ_self _), Nat.ne_of_gt ltA⟩
        refine setG_loop ((Walks.list nh3 _ a neI vs).toS) s.heap.objs.size offS ks vz hB hV (vs.size - 0) 0 _ (by omega) (Nat.zero_le _) ⟨⟨_, Heap.get?_push_size _ rfl, rfl, rfl⟩, (L1.push _)⟩ ?s0 ?s1
        case s0 =>
          exact ⟨0, Nat.le_refl 0, setG_new_at (ks := ks) (Heap.get?_push_of_some _ at0)⟩
        case s1 =>
          intro u c hm hc hR
          obtain ⟨g, gg, dd, tk, oo⟩ := u
          have x1 : gg = s.gens := hm.gens
          have x2 : dd = s.drawn := hm.drawn
          have x3 : oo = s.os := hm.os
          subst x1; subst x2; subst x3
          show wpAny _ _ _ _ _ _
          refine wpAny_pure ?_
          show wpAny _ _ (ret Value.none) _ _ _
          rw [vz] at hc
          refine wpAny_pure ⟨rfl, g, tk, c, rfl, hR, hc, fun b o hb => ?_⟩
          have lb : b < s.heap.objs.size := Heap.lt_size hb
          refine hm.heap b o ?_ (Heap.get?_push_of_some _ (Heap.get?_push_of_some _ hb))
          simp only [List.mem_cons, List.not_mem_nil, or_false, not_or]
          exact ⟨Nat.ne_of_lt lb, by rw [szN]; exact Nat.ne_of_lt (Nat.lt_succ_of_lt lb)⟩

      · cases r with
        | error x => exact ht
        | ok fl =>
          cases fl with
          | ret v =>
            obtain ⟨rfl, g, tk, c, rfl, hR, hc, hk⟩ := ht
            repeat (any_goals (first | assumption | wp_step))
            exact k _ _ _ hR hc hk
          | _ => exact ht.elim
    | _ => exact hr.elim
end
end Fx
/-! Fx30: sets of keys, as objects; sorted(set(..)), len(set(..)). -/
namespace Fx
open PySem PySem.Spec L2
section
variable {P : Program} {w : World} {A : Around} {E : Value → Shared → Prop} {s : Shared}
/-- set(l) of a tuple of keys -/
theorem setG_ofT {a : Addr} {vs : Array Value} (ks : List Key) {Q : Value → Shared → Prop} (nh : A.handled = none) (hL : s.heap.IsTuple a vs) (hV : ∀ (i : Nat) (v : Value), vs[i]? = some v → ∃ k, ks[i]? = some k ∧ keyIs k v = true) (vz : vs.size = ks.length) (hB : ks.length + 1 < scanBound)
    (k : ∀ (g : Heap) (tk c : Nat), SetG P w g s.heap.objs.size (fun j => inK ks j) c → c ≤ ks.length → (∀ b o, s.heap.get? b = some o → g.get? b = some o) → Q (.ref s.heap.objs.size) { s with heap := g, toks := tk }) :
    wpAny (model P w) A (call (.type "set") [.ref a]) Q E s := by
  obtain ⟨cm, tm, mro⟩ := F.called_set.mro
  have made := F.called_set.made
  have subs := F.called_set.sub
  refine wpAny_call (codeAny_of_tree ?_)
  show wpAny _ _ (callAny (.type "set") _) _ _ _
  refine wpAny_pure ⟨Code.quiet_builtin _ (by decide +kernel), codeAny_builtin F.entry_type_call ?_⟩
  rw [Around.under_plain (weight_type_call_type "set" [.ref a] []) rfl]
  have f1 := F.called_set.notType
  have f2 := F.called_set.canCreate
  have f3 := F.typeCall_set_1 (.ref a)
  repeat (any_goals (first | assumption | wp_step))

  refine codeAny_mono (code_set_led1 (.ref a) (E := E) (Q₁ := fun r u => r = .ref s.heap.objs.size ∧ u = { s with heap := s.heap.push { cls := .type "set", dict := none, data := .set #[] 0 (.fresh 0 0 (!w.params.followText "set-order")) } }) ⟨rfl, rfl⟩) fun r u hr => ?_
  cases r with
  | error x => exact hr
  | ok fl =>
    cases fl with
    | ret ob =>
      obtain ⟨rfl, rfl⟩ := hr
      have at0 : (s.heap.push ({ cls := .type "set", dict := none, data := .set #[] 0 (.fresh 0 0 (!w.params.followText "set-order")) })).get? s.heap.objs.size = some { cls := .type "set", dict := none, data := .set #[] 0 (.fresh 0 0 (!w.params.followText "set-order")) } := Heap.get?_push_size _ rfl
      have ty0 : Shared.TypeIs { s with heap := s.heap.push ({ cls := .type "set", dict := none, data := .set #[] 0 (.fresh 0 0 (!w.params.followText "set-order")) }) } (.ref s.heap.objs.size) "set" := ⟨_, at0, rfl⟩
      have li := F.called_set.init.lookup
      have bi := F.called_set.init.bind (.ref s.heap.objs.size)
      repeat (any_goals (first | assumption | wp_step))

      refine codeAny_mono (codeAny_call_builtin (R := wants (fun r t => r = .none ∧ ∃ g tk c, t = { s with heap := g, toks := tk } ∧ SetG P w g s.heap.objs.size (fun j => inK ks j) c ∧ c ≤ ks.length ∧ ∀ b o, s.heap.get? b = some o → g.get? b = some o) E)
        F.called_set.init.plain F.entry_set_init (check_set_init_1 ty0 ?_)) fun r t ht => ?_
      · obtain ⟨ol, oa, oc, no, od⟩ := hL
        obtain ⟨lc, ld, ldat, ls⟩ := ol
        simp only at oc od
        subst oc; subst od
        have oa' : (s.heap.push ({ cls := .type "set", dict := none, data := .set #[] 0 (.fresh 0 0 (!w.params.followText "set-order")) })).get? a = some { cls := .type "tuple", dict := ld, data := .seq vs no, slots := ls } := Heap.get?_push_of_some _ oa
        have g1 := F.sub_tuple_set
        have g2 := F.sub_tuple_frozenset
        have g3 : (Value.type "tuple" == Value.type "dict") = false := by decide
        have L1 : (s.heap.push ({ cls := .type "set", dict := none, data := .set #[] 0 (.fresh 0 0 (!w.params.followText "set-order")) })).IsTuple a vs := ⟨_, oa', rfl, no, rfl⟩
        unfold Builtin.«set.__init__» noKeywords Builtin.Frozenset.updateFrom
        generalize eP : pyIter = PI
        wp_walk
        subst eP

        refine wpAny_pyIter_tuple (s := { s with heap := s.heap.push ({ cls := .type "set", dict := none, data := .set #[] 0 (.fresh 0 0 (!w.params.followText "set-order")) }) }) L1 ?_
        refine wpAny_bind (wpAny_runValue ?_)
        have ltA : a < s.heap.objs.size := Heap.lt_size oa
        have nh3 : A.in1.in1.in1.handled = none := by simp [nh]
        have szN : (s.heap.push ({ cls := .type "set", dict := none, data := .set #[] 0 (.fresh 0 0 (!w.params.followText "set-order")) })).objs.size = s.heap.objs.size + 1 := Heap.size_push ..
        have neI : a ≠ (s.heap.push ({ cls := .type "set", dict := none, data := .set #[] 0 (.fresh 0 0 (!w.params.followText "set-order")) })).objs.size := by rw [szN]; exact Nat.ne_of_lt (Nat.lt_succ_of_lt ltA)
        have offS : s.heap.objs.size ∉ [(s.heap.push ({ cls := .type "set", dict := none, data := .set #[] 0 (.fresh 0 0 (!w.params.followText "set-order")) })).objs.size, a] := by
          rw [szN]
          simp only [List.mem_cons, List.not_mem_nil, or_false, not_or]
          exact ⟨Nat.ne_of_lt (Nat.lt_succ_self _), Nat.ne_of_gt ltA⟩
        refine setG_loop ((Walks.tuple nh3 _ a neI vs).toS) s.heap.objs.size offS ks vz hB hV (vs.size - 0) 0 _ (by omega) (Nat.zero_le _) ⟨⟨_, Heap.get?_push_size _ rfl, rfl, rfl⟩, (L1.push _)⟩ ?s0 ?s1
        case s0 =>
          exact ⟨0, Nat.le_refl 0, setG_new_at (ks := ks) (Heap.get?_push_of_some _ at0)⟩
        case s1 =>
          intro u c hm hc hR
          obtain ⟨g, gg, dd, tk, oo⟩ := u
          have x1 : gg = s.gens := hm.gens
          have x2 : dd = s.drawn := hm.drawn
          have x3 : oo = s.os := hm.os
          subst x1; subst x2; subst x3
          show wpAny _ _ _ _ _ _
          refine wpAny_pure ?_
          show wpAny _ _ (ret Value.none) _ _ _
          rw [vz] at hc
          refine wpAny_pure ⟨rfl, g, tk, c, rfl, hR, hc, fun b o hb => ?_⟩
          have lb : b < s.heap.objs.size := Heap.lt_size hb
          refine hm.heap b o ?_ (Heap.get?_push_of_some _ (Heap.get?_push_of_some _ hb))
          simp only [List.mem_cons, List.not_mem_nil, or_false, not_or]
          exact ⟨Nat.ne_of_lt lb, by rw [szN]; exact Nat.ne_of_lt (Nat.lt_succ_of_lt lb)⟩

      · cases r with
        | error x => exact ht
        | ok fl =>
          cases fl with
          | ret v =>
            obtain ⟨rfl, g, tk, c, rfl, hR, hc, hk⟩ := ht
            repeat (any_goals (first | assumption | wp_step))
            exact k _ _ _ hR hc hk
          | _ => exact ht.elim
    | _ => exact hr.elim
end
def SetGO (P : Program) (w : World) (a : Addr) (S : Key → Bool) (n : Nat) : HO := .ext fun h => SetG P w h a S n
theorem setGO_new {w : World} {P : Program} {H : Hp} {h : Heap} {a : Addr} {S : Key → Bool} {n : Nat} (R : SetG P w h a S n) : ObjOk P w H h a (SetGO P w a S n) := by
  have ⟨o, _, _, _, ho, _⟩ := R
  exact ⟨R, ⟨o, ho⟩, fun h1 h2 p k => SetG.at p k⟩
/-- each key once, the first of it -/
def dedK : List Key → List Key
  | [] => []
  | k :: ks => k :: (dedK ks).filter fun j => !decide (j = k)
theorem dedK_mem {j : Key} : ∀ {ks : List Key}, j ∈ dedK ks ↔ j ∈ ks
  | [] => Iff.rfl
  | k :: ks => by
    rw [dedK, List.mem_cons, List.mem_cons, List.mem_filter, dedK_mem (ks := ks)]
    by_cases h : j = k <;> simp [h]
theorem dedK_nd : ∀ ks : List Key, (dedK ks).Nodup
  | [] => List.nodup_nil
  | k :: ks => List.nodup_cons.mpr ⟨fun h => by have := (List.mem_filter.mp h).2; simp at this, (dedK_nd ks).filter _⟩
theorem nd_perm : ∀ {xs ys : List Key}, xs.Nodup → ys.Nodup → (∀ k, k ∈ xs ↔ k ∈ ys) → xs.Perm ys
  | [], ys, _, _, h => by
    cases ys with
    | nil => exact .nil
    | cons y ys => have := (h y).mpr (List.mem_cons_self ..); cases this
  | x :: xs, ys, h1, h2, h => by
    obtain ⟨n1, n2⟩ := List.nodup_cons.mp h1
    obtain ⟨a, b, rfl⟩ := List.append_of_mem ((h x).mp (List.mem_cons_self ..))
    have p : (a ++ x :: b).Perm (x :: (a ++ b)) := List.perm_middle
    have h3 := p.nodup_iff.mp h2
    obtain ⟨m1, m2⟩ := List.nodup_cons.mp h3
    refine (List.Perm.cons x (nd_perm n2 m2 fun k => ⟨fun q => ?_, fun q => ?_⟩)).trans p.symm
    · have := p.mem_iff.mp ((h k).mp (List.mem_cons_of_mem _ q))
      rcases List.mem_cons.mp this with r | r
      · exact absurd (r ▸ q) n1
      · exact r
    · have := (h k).mpr (p.mem_iff.mpr (List.mem_cons_of_mem _ q))
      rcases List.mem_cons.mp this with r | r
      · exact absurd (r ▸ q) m1
      · exact r
theorem setG_len {P : Program} {w : World} {h : Heap} {a : Addr} {ks : List Key} {c : Nat} (R : SetG P w h a (fun j => inK ks j) c) : c = (dedK ks).length := by
  obtain ⟨o, es, ep, t, ho, hex, hd, g, nd, hm, hb, hf, hn, hr, hl⟩ := R
  have e : (es.toList.map kE).length = c := by rw [List.length_map, Array.length_toList]; exact hn
  rw [← e]
  exact (nd_perm nd (dedK_nd ks) fun k => by rw [← hm k, inK_iff, dedK_mem]).length_eq
def rSetGL (K : PySem.W.Frag) (P : Program) (w : World) : List V → Hp → VK → Prop := fun vs H Q => ∃ (a : Addr) (ks : List Key), vs = [.ref a] ∧ (SqL K H a (ks.map kV) ∨ SqT K H a (ks.map kV)) ∧ ks.length ≤ 1000 ∧ ∀ p, H p = none → Q (.ref p) (upd H p (SetGO P w p (fun j => inK ks j) (dedK ks).length))
theorem key_vals : ∀ {ks : List Key} {us : List Value}, Vals (ks.map kV) us → us.length = ks.length ∧ ∀ (i : Nat) (v : Value), us[i]? = some v → ∃ k, ks[i]? = some k ∧ keyIs k v = true
  | [], us, h => by
    cases h
    exact ⟨rfl, fun i v e => by simp at e⟩
  | k :: ks, us, h => by
    cases h with
    | cons r h =>
      obtain ⟨l, z⟩ := key_vals h
      refine ⟨congrArg Nat.succ l, fun i v e => ?_⟩
      cases i with
      | zero =>
        cases e
        refine ⟨k, rfl, ?_⟩
        cases k with
        | inl i => obtain ⟨t, rfl⟩ := r; show (decide _) = true; simp
        | inr x => obtain ⟨t, rfl⟩ := r; show (decide _) = true; simp
      | succ i => exact z i v e
section
variable {X : Cx} {e : Expr} {p1 p2 pos pos2 : Pos}
theorem cr_setGL (hc : X.calm = true) : CallR X (.type "set") (rSetGL X.K X.prog X.w) := by
  intro pins s σ H vs us Q I r ⟨a, ks, ev, hq, hl, q⟩
  subst ev
  rw [Vals.ref1 r]
  have hd := I.ok.hd hc
  have sb : ks.length + 1 < scanBound := by unfold scanBound; omega
  have fin : ∀ (g : Heap) (tk c : Nat), SetG X.prog X.w g s.heap.objs.size (fun j => inK ks j) c → c ≤ ks.length → (∀ b o, s.heap.get? b = some o → g.get? b = some o) → EP X pins σ Q (.ref s.heap.objs.size) { s with heap := g, toks := tk } := fun g tk c R _ k => by
    have ec := setG_len R
    subst ec
    exact ⟨.ref _, upd H s.heap.objs.size (SetGO X.prog X.w s.heap.objs.size (fun j => inK ks j) (dedK ks).length), I.laid (t' := tk) k (Nat.le_refl _) (setGO_new R), rfl, q _ (I.hok.fresh (Nat.le_refl _))⟩
  rcases hq with hq | hq
  · obtain ⟨its, rv, pl, hz⟩ := I.list hq
    obtain ⟨l, z⟩ := key_vals rv
    exact setG_of ks hd (show s.heap.IsList a its.toArray from pl.isList) (fun i v h => z i v (by simpa using h)) (by simpa using l) sb fin
  · obtain ⟨its, rv, pl, hz⟩ := I.tuple hq
    obtain ⟨l, z⟩ := key_vals rv
    exact setG_ofT ks hd (show s.heap.IsTuple a its.toArray from pl) (fun i v h => z i v (by simpa using h)) (by simpa using l) sb fin
end
end Fx
/-! Fx31: sorted(set(..)) of keys. -/
namespace Fx
open PySem PySem.Spec L2
section
variable {X : Cx} {pins : List (Addr × Obj)} {σ : St} {H : Hp} {s : Shared}
def Col2 (X : Cx) (pins : List (Addr × Obj)) (σ : St) (s : Shared) (v : Value) (T : Hp → List V → Prop) : Prop :=
  ∀ (R : List Value → Shared → Prop) (E : Value → Shared → Prop), (∀ us ys H2 s1, Vals ys us → Inv X pins σ H2 s1 → T H2 ys → R us s1) → wpAny (model X.prog X.w) X.A.in1 (collect v) R E s
theorem sort_run2 {x : Value} {T : Hp → List V → Prop} {Q : VK} (hu : X.A.units + 64 < cLine) (C : Col2 X pins σ s x T)
    (hT : ∀ H ys, T H ys → ∃ ds : List D, sortOk ds = true ∧ DpAll X.K H ys ds ∧ ∃ R : V → D → Prop, Paired R ys ds ∧ ∀ p zs, H p = none → Paired R zs (srtD ds) → Q (.ref p) (upd H p (.lst zs))) : wpAny (model X.prog X.w) X.A (call (.builtin "sorted") [x]) (EP X pins σ Q) X.xe s := by
  refine Calls.call_function_entry PyProof.Rows.kind_sorted PyProof.Rows.plain_sorted PyProof.Rows.entry_sorted (PyProof.Rows.args_sorted1 _) ?_
  unfold Builtin.«sorted»
  refine wpAny_bind (m := checkCount "sorted" 1 1 _) (wpAny_pure ?_)
  refine wpAny_bind (C _ _ fun us ys H s1 rv I hh => ?_)
  obtain ⟨ds, ok, dp, R, pr, q⟩ := hT H ys hh
  obtain ⟨hz, hal, hk, hd⟩ := sortOk_of ok
  have hl : us.length = ds.length := rv.length.symm.trans pr.length
  refine wpAny_bind (wpAny_newList ?_ (by rw [hl]; exact hz))
  have hoL : (s1.heap.push (PyProof.Rows.seqObj "list" us.toArray 0)).get? s1.heap.objs.size = some (PyProof.Rows.seqObj "list" us.toArray 0) := Heap.get?_push_size _ rfl
  show wpAny _ _ _ _ _ { s1 with heap := s1.heap.push (PyProof.Rows.seqObj "list" us.toArray 0), toks := s1.toks }
  have hn : H s1.heap.objs.size = none := I.hok.fresh (Nat.le_refl _)
  have er : PySem.W.EachIs (fun v d => ∃ as, Reads (PySem.W.sortingHeap (s1.heap.push (PyProof.Rows.seqObj "list" us.toArray 0)) s1.heap.objs.size us) v d as) us ds := by
    obtain ⟨as, ra⟩ := Dp.readsAll I ds ys us dp rv
    have e0 := PySem.W.readsAll_each (fun d : D => d) (bs := ds) (by rw [List.map_id']; exact ra)
    exact e0.mono fun v d ⟨as, r⟩ => ⟨as, PyProof.Rows.Reads.keeps (fun b o e => PySem.W.sortingHeap_old (Nat.ne_of_lt (Heap.lt_size e)) (Heap.get?_push_of_some _ e)) r⟩
  have eR := paired_in rv pr
  have S : PySem.W.SortsAt X.prog X.w X.A.in1.in1 { s1 with heap := PySem.W.sortingHeap (s1.heap.push (PyProof.Rows.seqObj "list" us.toArray 0)) s1.heap.objs.size us, toks := s1.toks } (PySem.W.dataKind (PySem.W.sortingHeap (s1.heap.push (PyProof.Rows.seqObj "list" us.toArray 0)) s1.heap.objs.size us) ds) us :=
    PySem.W.SortsAt.data (s := { s1 with heap := PySem.W.sortingHeap (s1.heap.push (PyProof.Rows.seqObj "list" us.toArray 0)) s1.heap.objs.size us, toks := s1.toks }) er hal hk fun d hm => by
      have h1 := hd d hm
      have h2 : X.A.in1.in1.units ≤ X.A.units + 2 := by
        first | rfl | exact Nat.le_refl _ | decide
      omega
  refine wpAny_bind (wpAny_holding (PySem.wpAny_call_entry PyProof.Rows.slot_list_sort ⟨_, hoL, rfl⟩ PyProof.Rows.entry_list_sort (PySem.W.list_sort_vals (s := { s1 with heap := s1.heap.push (PyProof.Rows.seqObj "list" us.toArray 0), toks := s1.toks }) hoL S (by rw [hl]; exact hz) ?_) (PyProof.Rows.args_list_sort _)))
  refine ⟨_, rfl, wpAny_pure ⟨_, rfl, ?_⟩⟩
  have eo := PySem.W.sortVals_data (enc := fun d : D => d) false eR er (by rw [List.map_id']; exact hal)
  rw [List.map_id'] at eo
  obtain ⟨zs, rz, pz⟩ := paired_out eo
  generalize hO : PySem.W.sortVals (PySem.W.dataKind (PySem.W.sortingHeap (s1.heap.push (PyProof.Rows.seqObj "list" us.toArray 0)) s1.heap.objs.size us) ds) false us us = out at rz ⊢
  obtain ⟨n, hat⟩ := PyProof.Rows.sortedHeap_at (vs := us) (out := out.toArray) hoL
  have hlt : s1.heap.objs.size < (s1.heap.push (PyProof.Rows.seqObj "list" us.toArray 0)).objs.size := Heap.lt_size hoL
  have kp : ∀ b o, s1.heap.get? b = some o → (PyProof.Rows.sortedHeap (s1.heap.push (PyProof.Rows.seqObj "list" us.toArray 0)) s1.heap.objs.size us out.toArray).get? b = some o := fun b o e => by
    have hb : b < s1.heap.objs.size := Heap.lt_size e
    rw [PyProof.Rows.sortedHeap_old (Nat.ne_of_lt hb) (Nat.lt_trans hb hlt)]
    exact Heap.get?_push_of_some _ e
  refine ⟨.ref s1.heap.objs.size, upd H s1.heap.objs.size (.lst zs), I.laid (t' := s1.toks) kp (Nat.le_refl _) ⟨?_, out, n, rz, hat⟩, rfl, q _ zs hn pz⟩
  rw [pz.length, List.length_mergeSort]
  exact hz

theorem setGO_get {a : Addr} {S : Key → Bool} {n : Nat} (I : Inv X pins σ H s) (ha : H a = some (SetGO X.prog X.w a S n)) : SetG X.prog X.w s.heap a S n := (I.hok a _ ha).1
theorem vals_keys : ∀ {ks : List Key} {us : List Value}, ks.length = us.length → (∀ (i : Nat) (v : Value), us[i]? = some v → ∃ k, ks[i]? = some k ∧ keyIs k v = true) → Vals (ks.map kV) us
  | [], [], _, _ => .nil
  | [], _ :: _, h, _ => by cases h
  | _ :: _, [], h, _ => by cases h
  | k :: ks, u :: us, h, z => by
    obtain ⟨k', e, hk⟩ := z 0 u rfl
    cases e
    exact .cons (kV_of hk) (vals_keys (Nat.succ.inj h) fun i v e => z (i + 1) v e)
theorem col_setG (hc : X.calm = true) {a : Addr} {ks : List Key} {n : Nat} (I : Inv X pins σ H s) (ha : H a = some (SetGO X.prog X.w a (fun j => inK ks j) n)) :
    Col2 X pins σ s (.ref a) fun H2 ys => H2 = H ∧ ∃ ks' : List Key, ks'.Perm (dedK ks) ∧ ys = ks'.map kV := fun R E k => by
  obtain ⟨o, es, ep, t, ho, hex, hd, g, nd, hm, hb, hf, hn, hr, hl⟩ := setGO_get I ha
  have hsub : o.cls = .type "set" := hex.1
  refine collect_set (by simp [I.ok.hd hc]) (show SetAt s.heap a es ep t from ⟨o, ho, hsub, hd⟩) hf hb hr hl fun s' out kp hz hg ho' pm => ?_
  have e : s' = { s with heap := s'.heap, gens := s'.gens, drawn := s'.drawn, toks := s'.toks } := by
    cases s'
    cases s
    cases ho'
    rfl
  have J : Inv X pins σ H { s with heap := s'.heap, gens := s'.gens, drawn := s'.drawn, toks := s'.toks } :=
    I.call (ch := []) (Un.kept kp) (I.hok.kept kp) (by rw [hg]; exact I.bare) (fun _ z => nomatch z)
  rw [← e] at J
  have pk : (out.map kof).Perm (es.toList.map kE) := by
    have := pm.map kof
    rwa [List.map_map] at this
  refine k out ((out.map kof).map kV) H s' (vals_keys (by rw [List.length_map]) fun i v e => ?_) J ⟨rfl, out.map kof, pk.trans (nd_perm nd (dedK_nd ks) fun k => by rw [← hm k, inK_iff, dedK_mem]), rfl⟩
  have hv : v ∈ es.toList.map (·.2) := pm.mem_iff.mp (List.mem_of_getElem? e)
  obtain ⟨x, hx, rfl⟩ := List.mem_map.mp hv
  obtain ⟨kk, h1, _⟩ := g x hx
  exact ⟨kk, by rw [List.getElem?_map, e]; exact congrArg some (kof_is h1), h1⟩

end
def keyD : D → Option Key
  | .int i => some (.inl i)
  | .str x => some (.inr x)
  | _ => none
def keysD : List D → Option (List Key)
  | [] => some []
  | d :: ds => (keyD d).bind fun k => (keysD ds).bind fun ks => some (k :: ks)
theorem keyD_of {d : D} {k : Key} (h : keyD d = some k) : d = kD k := by
  unfold keyD at h
  split at h <;> cases h <;> rfl
theorem keysD_of : ∀ {ds : List D} {ks : List Key}, keysD ds = some ks → ds = ks.map kD
  | [], _, h => by cases h; rfl
  | d :: ds, _, h => by
    obtain ⟨k, h1, h⟩ := Option.bind_eq_some_iff.mp h
    obtain ⟨ks, h2, h⟩ := Option.bind_eq_some_iff.mp h
    cases h
    rw [keyD_of h1, keysD_of h2]
    rfl
theorem keysD_rep {K : PySem.W.Frag} {G : Hp} : ∀ {ks : List Key} {xs : List V}, Reps K G xs (ks.map kD) → xs = ks.map kV
  | [], _, h => by cases h; rfl
  | k :: ks, _, h => by
    cases h with
    | cons r h =>
      rw [keysD_rep h]
      cases k with
      | inl i => cases r; rfl
      | inr x => cases r; rfl
theorem reps_ofK {K : PySem.W.Frag} {G : Hp} : ∀ ks : List Key, Reps K G (ks.map kV) (ks.map kD)
  | [] => .nil
  | k :: ks => .cons (by cases k; exact .int _; exact .str _) (reps_ofK ks)
theorem dp_ofK {K : PySem.W.Frag} {G : Hp} : ∀ ks : List Key, DpAll K G (ks.map kV) (ks.map kD)
  | [] => .nil
  | k :: ks => .cons (by cases k; exact .int _; exact .str _) (dp_ofK ks)
theorem reps_ind {K : PySem.W.Frag} {G G' : Hp} : ∀ {xs : List V} {ys : List D}, Reps K G' xs ys → (∀ d ∈ ys, ∃ k, d = kD k) → Reps K G xs ys
  | _, _, .nil, _ => .nil
  | _, _, .cons r t, hm => by
    refine .cons ?_ (reps_ind t fun d hd => hm d (List.mem_cons_of_mem _ hd))
    obtain ⟨k, rfl⟩ := hm _ (List.mem_cons_self ..)
    cases k with
    | inl i => cases r; exact .int _
    | inr x => cases r; exact .str _
/-! all ints, or all texts -/
def kInt : Key → Bool
  | .inl _ => true
  | .inr _ => false
def oneKind (ks : List Key) : Bool := ks.all kInt || ks.all fun k => !kInt k
theorem kInts : ∀ {ks : List Key}, ks.all kInt = true → ∃ ns : List Int, ks = ns.map .inl
  | [], _ => ⟨[], rfl⟩
  | k :: ks, h => by
    rw [List.all_cons, Bool.and_eq_true] at h
    obtain ⟨ns, e⟩ := kInts h.2
    cases k with
    | inl i => exact ⟨i :: ns, by rw [e]; rfl⟩
    | inr x => exact nomatch h.1
theorem kStrs : ∀ {ks : List Key}, (ks.all fun k => !kInt k) = true → ∃ ns : List Str, ks = ns.map .inr
  | [], _ => ⟨[], rfl⟩
  | k :: ks, h => by
    rw [List.all_cons, Bool.and_eq_true] at h
    obtain ⟨ns, e⟩ := kStrs h.2
    cases k with
    | inl i => exact nomatch h.1
    | inr x => exact ⟨x :: ns, by rw [e]; rfl⟩
theorem dl_int (a b : Int) : PySem.W.dataLe false (fun d : D => d) (.int a) (.int b) = decide (a ≤ b) :=
  (show PySem.W.dataLe false (fun d : D => d) (.int a) (.int b) = PySem.W.dataLe false (fun n : Int => PyData.int n) a b from rfl).trans (congrFun (congrFun (PySem.W.dataLe_int fun n : Int => n) a) b)
theorem dl_str (a b : Str) : PySem.W.dataLe false (fun d : D => d) (.str a) (.str b) = decide (a.cps.toList ≤ b.cps.toList) :=
  (show PySem.W.dataLe false (fun d : D => d) (.str a) (.str b) = PySem.W.dataLe false (fun n : Str => PyData.str n) a b from rfl).trans (congrFun (congrFun (PySem.W.dataLe_str fun n : Str => n) a) b)
theorem srt_ints (ns : List Int) : srtD (ns.map .int) = (ns.mergeSort fun a b => decide (a ≤ b)).map .int := by
  unfold srtD
  rw [List.map_mergeSort (s := PySem.W.dataLe false fun d : D => d)]
  intro a _ b _
  exact (dl_int a b).symm
theorem srt_strs (ns : List Str) : srtD (ns.map .str) = (ns.mergeSort fun a b => decide (a.cps.toList ≤ b.cps.toList)).map .str := by
  unfold srtD
  rw [List.map_mergeSort (s := PySem.W.dataLe false fun d : D => d)]
  intro a _ b _
  exact (dl_str a b).symm
theorem str_of_cps {a b : Str} (h : a.cps.toList = b.cps.toList) : a = b := by
  cases a; cases b
  exact congrArg Str.mk (Array.toList_inj.mp h)
theorem ints_perm {xs ys : List Int} (p : xs.Perm ys) : (xs.mergeSort fun a b => decide (a ≤ b)) = ys.mergeSort fun a b => decide (a ≤ b) := by
  refine List.Perm.eq_of_pairwise (le := fun a b => decide (a ≤ b) = true) (fun a b _ _ h1 h2 => Int.le_antisymm (of_decide_eq_true h1) (of_decide_eq_true h2)) ?_ ?_ ((List.mergeSort_perm _ _).trans (p.trans (List.mergeSort_perm _ _).symm))
  all_goals exact List.pairwise_mergeSort (le := fun a b : Int => decide (a ≤ b)) (fun a b c h1 h2 => decide_eq_true (Int.le_trans (of_decide_eq_true h1) (of_decide_eq_true h2))) (fun a b => by simpa using Int.le_total a b) _
theorem strs_perm {xs ys : List Str} (p : xs.Perm ys) : (xs.mergeSort fun a b => decide (a.cps.toList ≤ b.cps.toList)) = ys.mergeSort fun a b => decide (a.cps.toList ≤ b.cps.toList) := by
  refine List.Perm.eq_of_pairwise (le := fun a b : Str => decide (a.cps.toList ≤ b.cps.toList) = true) (fun a b _ _ h1 h2 => str_of_cps (List.le_antisymm (of_decide_eq_true h1) (of_decide_eq_true h2))) ?_ ?_ ((List.mergeSort_perm _ _).trans (p.trans (List.mergeSort_perm _ _).symm))
  all_goals exact List.pairwise_mergeSort (le := fun a b : Str => decide (a.cps.toList ≤ b.cps.toList)) (fun a b c h1 h2 => decide_eq_true (List.le_trans (of_decide_eq_true h1) (of_decide_eq_true h2))) (fun a b => by simpa using List.le_total a.cps.toList b.cps.toList) _
theorem srt_perm {ks ks' : List Key} (p : ks'.Perm ks) (o : oneKind ks = true) : srtD (ks'.map kD) = srtD (ks.map kD) := by
  have all' : ∀ f : Key → Bool, ks.all f = true → ks'.all f = true := fun f h => List.all_eq_true.mpr fun k hk => List.all_eq_true.mp h k (p.mem_iff.mp hk)
  unfold oneKind at o
  rw [Bool.or_eq_true] at o
  rcases o with o | o
  · obtain ⟨ns, e⟩ := kInts o
    obtain ⟨ms, e'⟩ := kInts (all' _ o)
    subst e e'
    have q : ms.Perm ns := by
      have := p.filterMap fun k : Key => match k with
        | .inl i => some i
        | .inr _ => none
      simpa [List.filterMap_map, Function.comp_def] using this
    rw [List.map_map, List.map_map, show kD ∘ Sum.inl = PyData.int from rfl, srt_ints, srt_ints, ints_perm q]
  · obtain ⟨ns, e⟩ := kStrs o
    obtain ⟨ms, e'⟩ := kStrs (all' _ o)
    subst e e'
    have q : ms.Perm ns := by
      have := p.filterMap fun k : Key => match k with
        | .inr i => some i
        | .inl _ => none
      simpa [List.filterMap_map, Function.comp_def] using this
    rw [List.map_map, List.map_map, show kD ∘ Sum.inr = PyData.str from rfl, srt_strs, srt_strs, strs_perm q]
theorem sortOk_keys {ks : List Key} (o : oneKind ks = true) (hz : ks.length ≤ 1000) : sortOk (ks.map kD) = true := by
  have sz : (1000 : Nat) ≤ sizeLine := by rw [sizeLine_eq]; decide
  unfold oneKind at o
  rw [Bool.or_eq_true] at o
  unfold sortOk
  rw [Bool.and_eq_true, Bool.and_eq_true, Bool.and_eq_true, Bool.or_eq_true]
  refine ⟨⟨⟨decide_eq_true (by rw [List.length_map]; omega), ?_⟩, .inr ?_⟩, ?_⟩
  · rcases o with o | o
    · obtain ⟨ns, rfl⟩ := kInts o
      simp [List.all_eq_true, kD, PySem.W.alike]
    · obtain ⟨ns, rfl⟩ := kStrs o
      simp [List.all_eq_true, kD, PySem.W.alike]
  · rw [List.all_eq_true]
    intro d hd
    obtain ⟨k, _, rfl⟩ := List.mem_map.mp hd
    cases k <;> rfl
  · rw [List.all_eq_true]
    intro d hd
    obtain ⟨k, _, rfl⟩ := List.mem_map.mp hd
    cases k <;> rfl
theorem oneKind_perm {ks ks' : List Key} (p : ks'.Perm ks) (o : oneKind ks = true) : oneKind ks' = true := by
  have all' : ∀ f : Key → Bool, ks.all f = true → ks'.all f = true := fun f h => List.all_eq_true.mpr fun k hk => List.all_eq_true.mp h k (p.mem_iff.mp hk)
  unfold oneKind at o ⊢
  rw [Bool.or_eq_true] at o ⊢
  exact o.imp (all' _) (all' _)
theorem dedK_len : ∀ ks : List Key, (dedK ks).length ≤ ks.length
  | [] => Nat.le_refl _
  | k :: ks => Nat.succ_le_succ (Nat.le_trans (List.length_filter_le ..) (dedK_len ks))
def rSortSetG (P : Program) (w : World) (K : PySem.W.Frag) : List V → Hp → VK → Prop := fun vs H Q => ∃ (a : Addr) (ks : List Key) (n : Nat), vs = [.ref a] ∧ H a = some (SetGO P w a (fun j => inK ks j) n) ∧ oneKind (dedK ks) = true ∧ ks.length ≤ 1000 ∧
  ∀ p zs, H p = none → Paired (Rep K H) zs (srtD ((dedK ks).map kD)) → Q (.ref p) (upd H p (.lst zs))
section
variable {X : Cx} {e : Expr} {p1 p2 pos pos2 : Pos}
theorem cr_sortSetG (hc : X.calm = true) (hu : X.A.units + 64 < cLine) : CallR X (.builtin "sorted") (rSortSetG X.prog X.w X.K) := by
  intro pins s σ H xs us Q I r ⟨a, ks, n, e, ha, ok, hz, q⟩
  subst e
  rw [Vals.ref1 r]
  refine sort_run2 hu (col_setG hc I ha) fun H' ys hh => ?_
  obtain ⟨rfl, ks', pm, rfl⟩ := hh
  have rr : Reps X.K H' (ks'.map kV) (ks'.map kD) := reps_ofK ks'
  refine ⟨ks'.map kD, sortOk_keys (oneKind_perm pm ok) (by rw [pm.length_eq]; exact Nat.le_trans (dedK_len ks) hz), dp_ofK ks', Rep X.K H', reps_pair rr, fun p zs hp pz => q p zs hp ?_⟩
  rwa [← srt_perm pm ok]
def dSortSetK : List D → Option (D × Bool)
  | [d] => (lstD d).bind fun ds => (keysD ds).bind fun ks => if ks.length ≤ 1000 ∧ oneKind ks = true then some (.list (srtD ((dedK ks).map kD)), true) else none
  | _ => none
theorem oneKind_ded {ks : List Key} (o : oneKind ks = true) : oneKind (dedK ks) = true := by
  have all' : ∀ f : Key → Bool, ks.all f = true → (dedK ks).all f = true := fun f h => List.all_eq_true.mpr fun k hk => List.all_eq_true.mp h k (dedK_mem.mp hk)
  unfold oneKind at o ⊢
  rw [Bool.or_eq_true] at o ⊢
  exact o.imp (all' _) (all' _)
theorem fe_sortSetK {l : Av} (hc : X.calm = true) (hu : X.A.units + 64 < cLine) (hm1 : X.mg "sorted" = none) (hm2 : X.mg "set" = none) (ha : PA X [e] (FA X.K l)) (hg1 : Gl X "sorted" := by rfl) (hg2 : Gl X "set" := by rfl) (n1 : starEach [e] X.env = (false, eval e X.env) :: starEach [] X.env := by rfl)
    (n2 : starEach [.Call (.Name "set" p2) [e] [] pos2] X.env = (false, eval (.Call (.Name "set" p2) [e] [] pos2) X.env) :: starEach [] X.env := by rfl) : PE X (.Call (.Name "sorted" p1) [.Call (.Name "set" p2) [e] [] pos2] [] pos) (FE X.K (fN l dSortSetK)) :=
  pe_imp (pe_callB (cr_sortSetG hc hu) hg1 hm1 PyProof.Rows.boot_sorted (pa_cons (pe_callTy (cr_setGL hc) hg2 hm2 PyProof.Rows.boot_set ha (by decide) (by decide) n1 rfl) pa_nil n2) (by decide) (by decide) n2 rfl) fun σ H Q h => by
    refine tN_of (r := fun vs H Q => rSetGL X.K X.prog X.w vs H fun v H1 => rSortSetG X.prog X.w X.K [v] H1 Q) ?_ h
    intro vs ds z b G H Q s u hg k
    unfold dSortSetK at hg
    split at hg
    · obtain ⟨es, h1, hg⟩ := Option.bind_eq_some_iff.mp hg
      obtain ⟨ks, h2, hg⟩ := Option.bind_eq_some_iff.mp hg
      obtain ⟨⟨h3, h4⟩, hg⟩ := ite_some hg
      cases hg
      obtain ⟨v, rfl, u0⟩ := u.one
      have fin : ∀ p, H p = none → rSortSetG X.prog X.w X.K [V.ref p] (upd H p (SetGO X.prog X.w p (fun j => inK ks j) (dedK ks).length)) Q := fun p hp => by
        refine ⟨p, ks, _, rfl, upd_same, oneKind_ded h4, h3, fun q zs hq pz => ?_⟩
        have N := New.own (o := SetGO X.prog X.w p (fun j => inK ks j) (dedK ks).length) s hp
        have N2 := New.own (o := .lst zs) N.sub hq
        have hq0 : H q = none := N.ext.t q hq
        have rz : Reps X.K G zs (srtD ((dedK ks).map kD)) := by
          have pr := pair_reps pz
          have hm : ∀ d ∈ srtD ((dedK ks).map kD), ∃ k, d = kD k := fun d hd => by
            have := (List.mergeSort_perm _ _).mem_iff.mp hd
            obtain ⟨k, _, e⟩ := List.mem_map.mp this
            exact ⟨k, e.symm⟩
          exact reps_ind pr hm
        exact k _ _ _ ⟨N.ext.trans N2.ext fun _ z => z.elim, N2.sub⟩ ⟨q, _, rfl, .inl hq0, fun z => z, upd_same, s.free hq0, .lst rz⟩
      have e2 := keysD_of h2
      unfold lstD at h1
      split at h1
      · cases h1
        obtain ⟨a, xs, rfl, h, r⟩ := u0.list s
        subst e2
        exact ⟨a, ks, rfl, .inl (keysD_rep r ▸ h), h3, fin⟩
      · cases h1
        obtain ⟨a, xs, rfl, h, r⟩ := u0.tuple s
        subst e2
        exact ⟨a, ks, rfl, .inr (keysD_rep r ▸ h), h3, fin⟩
      · cases h1
    · cases hg
end
end Fx
/-! Fx32: zip of lists and tuples in any mix. -/
namespace Fx
open PySem PySem.Spec L2
/-- a tuple (t) or a list -/
def SqB (K : PySem.W.Frag) (t : Bool) (H : Hp) (a : Addr) (xs : List V) : Prop := if t then SqT K H a xs else SqL K H a xs
def itB (t : Bool) (h : Heap) (it a : Addr) (i : Nat) : Prop := if t then h.IsTupleIter it a i else h.IsListIter it a i
def isB (t : Bool) (h : Heap) (a : Addr) (vs : Array Value) : Prop := if t then h.IsTuple a vs else h.IsList a vs
theorem sqB_vals {X : Cx} {pins : List (Addr × Obj)} {σ : St} {H : Hp} {s : Shared} (I : Inv X pins σ H s) : ∀ {t : Bool} {a : Addr} {xs : List V}, SqB X.K t H a xs → ∃ its : List Value, Vals xs its ∧ isB t s.heap a its.toArray
  | true, a, xs, h => by
    obtain ⟨its, r, p, _⟩ := I.tuple (show SqT X.K H a xs from h)
    exact ⟨its, r, p⟩
  | false, a, xs, h => by
    obtain ⟨its, r, p, _⟩ := I.list (show SqL X.K H a xs from h)
    exact ⟨its, r, p.isList⟩
theorem sqB_inj {X : Cx} {pins : List (Addr × Obj)} {σ : St} {H : Hp} {s : Shared} (I : Inv X pins σ H s) : ∀ {t : Bool} {a : Addr} {xs ys : List V}, SqB X.K t H a xs → SqB X.K t H a ys → xs = ys
  | true, a, xs, ys, h, h' => I.tuple_inj (show SqT X.K H a xs from h) (show SqT X.K H a ys from h')
  | false, a, xs, ys, h, h' => I.list_inj (show SqL X.K H a xs from h) (show SqL X.K H a ys from h')
theorem itB_at {t : Bool} {h h' : Heap} {it a : Addr} {i : Nat} (st : itB t h it a i) (k : ∀ o, h.get? it = some o → h'.get? it = some o) : itB t h' it a i := by
  cases t
  · exact Heap.IsListIter.at (show h.IsListIter it a i from st) k
  · exact Heap.IsTupleIter.at (show h.IsTupleIter it a i from st) k
theorem isB_at {t : Bool} {h h' : Heap} {a : Addr} {vs : Array Value} (st : isB t h a vs) (k : ∀ o, h.get? a = some o → h'.get? a = some o) : isB t h' a vs := by
  cases t
  · exact Heap.IsList.at (show h.IsList a vs from st) k
  · exact Heap.IsTuple.at (show h.IsTuple a vs from st) k
theorem itB_obj {t : Bool} {h : Heap} {it a : Addr} {i : Nat} (st : itB t h it a i) : ∃ o, h.get? it = some o ∧ ∀ v, o.data ≠ .cell v := by
  cases t
  · obtain ⟨o, e, _, d⟩ := (show h.IsListIter it a i from st)
    exact ⟨o, e, fun v q => by rw [d] at q; cases q⟩
  · obtain ⟨o, e, _, d⟩ := (show h.IsTupleIter it a i from st)
    exact ⟨o, e, fun v q => by rw [d] at q; cases q⟩
theorem isB_lt {t : Bool} {h : Heap} {a : Addr} {vs : Array Value} (st : isB t h a vs) : a < h.objs.size := by
  cases t
  · obtain ⟨o, e, _⟩ := (show h.IsList a vs from st)
    exact Heap.lt_size e
  · obtain ⟨o, e, _⟩ := (show h.IsTuple a vs from st)
    exact Heap.lt_size e
section
variable {P : Program} {w : World} {A : Around}
theorem drawsB (hh : A.handled = none) (t : Bool) (it a : Addr) (hne : a ≠ it) (vs : Array Value) :
    Draws P w A it [it, a] vs.size (fun i v => vs[i]? = some v) (fun i h => itB t h it a i ∧ isB t h a vs) := by
  cases t
  · exact Draws.list hh it a hne vs
  · exact Draws.tuple hh it a hne vs
/-- at its end, wherever that is -/
theorem drawsE (hh : A.handled = none) (t : Bool) (it a : Addr) (n : Nat) (vs : Array Value) (hn : vs[n]? = none) :
    Draws P w A it [it, a] n (fun _ _ => True) (fun i h => i = n ∧ itB t h it a n ∧ isB t h a vs) where
  live := fun _ _ st => let ⟨o, e, _⟩ := itB_obj st.2.1; ⟨o, e⟩
  frame := fun _ _ _ st hk => ⟨st.1, itB_at st.2.1 fun o e => hk it (by simp) o e, isB_at st.2.2 fun o e => hk a (by simp) o e⟩
  item := fun i s Q E hi st hQ => absurd hi (by rw [st.1]; exact Nat.lt_irrefl _)
  done := fun s Q E st hE => by
    cases t
    · exact wpAny_nextOf_list_end hh (show s.heap.IsListIter it a n from st.2.1) (show s.heap.IsList a vs from st.2.2) hn hE
    · exact wpAny_nextOf_tuple_end hh (show s.heap.IsTupleIter it a n from st.2.1) (show s.heap.IsTuple a vs from st.2.2) hn hE
end
theorem sepOf {z TI TO i1 i2 a b : Addr} (D : ZipApart z TI TO i1 i2 a b) : ZipSep2 z TI TO i1 i2 [i1, a] [i2, b] where
  TIz := D.TIz
  TOz := D.TOz
  TITO := D.TITO
  TIi1 := D.TIi1
  mem1 := by simp
  zf1 := by
    have h1 := D.i1z.symm
    have h2 := D.l1z.symm
    simp [h1, h2]
  Tf1 := by
    have h1 := D.TOi1
    have h2 := D.l1TO.symm
    simp [h1, h2]
  TIi2 := D.TIi2
  mem2 := by simp
  zf2 := by
    have h1 := D.i2z.symm
    have h2 := D.l2z.symm
    simp [h1, h2]
  Tf2 := by
    have h1 := D.TOi2
    have h2 := D.l2TO.symm
    simp [h1, h2]
  sep1_2 := by
    have h1 := D.i12
    have h2 := D.l2i1.symm
    simp [h1, h2]
  sep2_1 := by
    have h1 := D.i12.symm
    have h2 := D.l1i2.symm
    simp [h1, h2]
def ItzB (K : PySem.W.Frag) (t1 t2 : Bool) (a b : Addr) : It :=
  ⟨fun i H => ∃ (xs ys : List V) (x y : V), SqB K t1 H a xs ∧ SqB K t2 H b ys ∧ xs[i]? = some x ∧ ys[i]? = some y,
    fun i H v H' => ∃ T x y, v = .ref T ∧ H T = none ∧ H' = upd H T (.tup [x, y]) ∧ (∀ xs, SqB K t1 H a xs → xs[i]? = some x) ∧ ∀ ys, SqB K t2 H b ys → ys[i]? = some y,
    fun i H => ∃ xs ys : List V, SqB K t1 H a xs ∧ SqB K t2 H b ys ∧ (xs.length ≤ i ∨ ys.length ≤ i)⟩
abbrev five (z TI TO i1 i2 : Addr) : List Addr := [z, TI, TO, i1, i2]
theorem turn_zipB {P : Program} {w : World} {K : PySem.W.Frag} {elts : List Expr} {kk : Nat} {tpos : Pos} {a b z TI TO i1 i2 : Addr} {t1 t2 : Bool} (D : ZipApart z TI TO i1 i2 a b) :
    Turn P w K (.Tuple elts kk tpos) (ItzB K t1 t2 a b) (five z TI TO i1 i2) z (fun i h => IsZip h z TI TO .none ∧ IsTupOf2 h TI (.ref i1) (.ref i2) ∧ (∃ x y, IsTupOf2 h TO x y) ∧ itB t1 h i1 a i ∧ itB t2 h i2 b i) where
  mem := by simp
  obj := fun i h st c hc => by
    obtain ⟨hz, hTI, ⟨x, y, hTO⟩, h1, h2⟩ := st
    have e' : c = z ∨ c = TI ∨ c = TO ∨ c = i1 ∨ c = i2 := by simpa using hc
    rcases e' with q | q | q | q | q
    · rw [q]; exact ⟨_, hz, fun v q => nomatch q⟩
    · rw [q]; exact ⟨_, hTI, fun v q => nomatch q⟩
    · rw [q]; exact ⟨_, hTO, fun v q => nomatch q⟩
    · rw [q]; exact itB_obj h1
    · rw [q]; exact itB_obj h2
  keep := fun i h h' ⟨hz, hTI, ⟨x, y, hTO⟩, h1, h2⟩ k =>
    ⟨k z (by simp) _ hz, k TI (by simp) _ hTI, ⟨x, y, k TO (by simp) _ hTO⟩, itB_at h1 fun o q => k i1 (by simp) o q, itB_at h2 fun o q => k i2 (by simp) o q⟩
  item := by
    intro X hP hw hK hc i pins s σ H E I hf st hg
    subst hP hw hK
    obtain ⟨hz, hTI, ⟨x0, y0, hTO⟩, h1, h2⟩ := st
    obtain ⟨xs, ys, x, y, hqx, hqy, hx, hy⟩ := hg
    obtain ⟨its, rv, p⟩ := sqB_vals I hqx
    obtain ⟨its2, rv2, p2⟩ := sqB_vals I hqy
    obtain ⟨u, hu, ru⟩ := rv.get hx
    obtain ⟨u2, hu2, ru2⟩ := rv2.get hy
    have hzl : z < s.heap.objs.size := Heap.lt_size hz
    have nh : X.A.in1.handled = none := by simp [I.ok.hd hc]
    have l1 := (List.getElem?_eq_some_iff.mp hu).1
    have l2 := (List.getElem?_eq_some_iff.mp hu2).1
    refine wpAny_pyNext_zipD2_item (sepOf D) (drawsB nh t1 i1 a D.l1i1 its.toArray) (drawsB nh t2 i2 b D.l2i2 its2.toArray) hz hTI hTO ⟨h1, p⟩ ⟨h2, p2⟩ (by simpa using l1) (by simpa using l2) fun y1 y2 h' tk e1 e2 z' TO' d1 d2 hT hsz hk => ?_
    have ey1 : y1 = u := by simpa [hu] using e1.symm
    have ey2 : y2 = u2 := by simpa [hu2] using e2.symm
    subst ey1 ey2
    refine ⟨_, rfl, wpAny_letOwnedTupleGo_zip (s := { s with heap := h', toks := tk }) z' fun h'' z'' sb => ?_⟩
    have hT2 : h''.get? s.heap.objs.size = some { cls := .type "tuple", data := .seq #[y1, y2] } := (sb.2 _ (Nat.ne_of_gt hzl)).trans hT
    have new : ObjOk X.prog X.w (upd H s.heap.objs.size (.tup [x, y])) h'' s.heap.objs.size (.tup [x, y]) :=
      ⟨by show 2 ≤ sizeLine; decide, [y1, y2], .cons ru (.cons ru2 .nil), ⟨_, hT2, rfl, _, rfl⟩⟩
    have I1 : Inv X pins σ (upd H s.heap.objs.size (.tup [x, y])) { s with heap := h'', toks := tk } :=
      I.turnedNew (t' := tk) (ch := five z TI TO i1 i2) (fun c o hb q => (sb.2 c (fun q' => hb (by simp [q']))).trans (hk c o (fun q' => hb (by simp [q'])) (fun q' => hb (by simp [q'])) (fun q' => hb (by simp [q'])) (fun q' => hb (by simp [q'])) q)) hf (Nat.le_refl _) new
    refine ⟨.ref s.heap.objs.size, _, I1, rfl, ⟨_, x, y, rfl, I.hok.fresh (Nat.le_refl _), rfl, fun l hl => by rw [sqB_inj I hl hqx]; exact hx, fun l hl => by rw [sqB_inj I hl hqy]; exact hy⟩, ⟨z'', ?_, ⟨y1, y2, ?_⟩, ?_, ?_⟩, fun c hcm => ?_⟩
    · exact (sb.2 _ D.TIz).trans (hk _ _ D.TIz D.TITO D.TIi1 D.TIi2 hTI)
    · exact (sb.2 _ D.TOz).trans TO'
    · exact itB_at d1.1 fun o q => (sb.2 _ D.i1z).trans q
    · exact itB_at d2.1 fun o q => (sb.2 _ D.i2z).trans q
    · have hlt : c < s.heap.objs.size := by
        have e' : c = z ∨ c = TI ∨ c = TO ∨ c = i1 ∨ c = i2 := by simpa using hcm
        rcases e' with q | q | q | q | q
        · rw [q]; exact hzl
        · rw [q]; exact Heap.lt_size hTI
        · rw [q]; exact Heap.lt_size hTO
        · rw [q]; obtain ⟨_, e1, _⟩ := itB_obj h1; exact Heap.lt_size e1
        · rw [q]; obtain ⟨_, e2, _⟩ := itB_obj h2; exact Heap.lt_size e2
      rw [upd_ne (Nat.ne_of_lt hlt)]
      exact (hf c hcm).1
  done := by
    intro X hP hw hK hc i pins s σ H E I hf st hg
    subst hP hw hK
    obtain ⟨hz, hTI, ⟨x0, y0, hTO⟩, h1, h2⟩ := st
    obtain ⟨xs, ys, hqx, hqy, hend⟩ := hg
    obtain ⟨its, rv, p⟩ := sqB_vals I hqx
    obtain ⟨its2, rv2, p2⟩ := sqB_vals I hqy
    have e1 := rv.length
    have e2 := rv2.length
    have nh : X.A.in1.handled = none := by simp [I.ok.hd hc]
    have fin : ∀ (h' : Heap) (tk : Nat), (∀ c o, c ≠ z → c ≠ TO → c ≠ i1 → c ≠ i2 → s.heap.get? c = some o → h'.get? c = some o) → (none : Option Value) = none ∧ Inv X pins σ H { s with heap := h', toks := tk } := fun h' tk hk =>
      ⟨rfl, I.turnedL (t' := tk) (ch := five z TI TO i1 i2) (fun c o hb q => hk c o (fun q' => hb (by simp [q'])) (fun q' => hb (by simp [q'])) (fun q' => hb (by simp [q'])) (fun q' => hb (by simp [q'])) q) hf⟩
    by_cases hl : xs.length ≤ i
    · by_cases hl2 : ys.length ≤ i
      · exact wpAny_pyNext_zipD2_end (sepOf D) (drawsE nh t1 i1 a i its.toArray (by simp; omega)) (drawsE nh t2 i2 b i its2.toArray (by simp; omega)) hz hTI hTO ⟨rfl, h1, p⟩ ⟨rfl, h2, p2⟩ (Nat.le_refl _) (Nat.le_refl _) (.inl rfl) fun h' tk hk => fin h' tk hk
      · exact wpAny_pyNext_zipD2_end (sepOf D) (drawsE nh t1 i1 a i its.toArray (by simp; omega)) (drawsB nh t2 i2 b D.l2i2 its2.toArray) hz hTI hTO ⟨rfl, h1, p⟩ ⟨h2, p2⟩ (Nat.le_refl _) (by simp; omega) (.inl rfl) fun h' tk hk => fin h' tk hk
    · have hl2 : ys.length ≤ i := hend.resolve_left hl
      exact wpAny_pyNext_zipD2_end (sepOf D) (drawsB nh t1 i1 a D.l1i1 its.toArray) (drawsE nh t2 i2 b i its2.toArray (by simp; omega)) hz hTI hTO ⟨h1, p⟩ ⟨rfl, h2, p2⟩ (by simp; omega) (Nat.le_refl _) (.inr rfl) fun h' tk hk => fin h' tk hk
  self := fun A i s Q E st h => wpAny_pyIter_zip st.1 h
def iZipB (K : PySem.W.Frag) (ta : TA) : TI := fun σ H R => ta σ H fun vs H1 => ∃ (a b : Addr) (t1 t2 : Bool) (xs ys : List V), vs = [.ref a, .ref b] ∧ SqB K t1 H1 a xs ∧ SqB K t2 H1 b ys ∧ R (ItzB K t1 t2 a b) H1
/-- how the iterator of a tuple or a list begins -/
def objB (t : Bool) (a : Addr) : Obj := if t then { cls := .type "tuple_iterator", data := .fields #[.ref a, .int 0 0] } else { cls := .type "list_iterator", data := .fields #[.ref a, .int 0 0] }
theorem beginsB (t : Bool) (a : Addr) (vs : Array Value) : Begins (.ref a) (objB t a) fun h => isB t h a vs := by
  cases t
  · exact begins_list a vs
  · exact begins_tuple a vs
theorem itB_new {t : Bool} {h : Heap} {it a : Addr} (e : h.get? it = some (objB t a)) : itB t h it a 0 := by
  cases t
  · exact ⟨_, e, rfl, rfl⟩
  · exact ⟨_, e, rfl, rfl⟩
theorem pi_zipB {X : Cx} {e e2 : Expr} {ta : TA} {p pos tpos : Pos} {elts : List Expr} {kk : Nat} (hg : Gl X "zip") (hm : X.mg "zip" = none) (ha : PA X [e, e2] ta)
    (hs : starEach [e, e2] X.env = (false, eval e X.env) :: starEach [e2] X.env := by rfl) (hpl : (backTo pos (starEach [e2] X.env)).any (·.1) = false := by rfl) :
    PI X (.Tuple elts kk tpos) (.Call (.Name "zip" p) [e, e2] [] pos) (iZipB X.K ta) := by
  refine ⟨fun pins s σ H R I h => ?_⟩
  refine PyProof.Rows.Call_ (ld_blt I hg hm PyProof.Rows.boot_zip (PyProof.Rows.callWith_type1 (thn (ha.run pos pins s σ H _ I h) fun us s1 ⟨vs, H1, I1, r1, q1⟩ => ?_) hs hpl))
  obtain ⟨a, b, t1, t2, xs, ys, ex, hqx, hqy, q⟩ := q1
  subst ex
  cases r1 with
  | cons r rr =>
    cases rr with
    | cons r' rr =>
      cases rr
      cases r
      cases r'
      obtain ⟨its, rv, p1⟩ := sqB_vals I1 hqx
      obtain ⟨its2, rv2, p2⟩ := sqB_vals I1 hqy
      refine zip_begins2 (beginsB t1 a its.toArray) (beginsB t2 b its2.toArray) p1 p2 fun h' hz hTI hTO h1 h2 hsz hk => wpAny_pyIter_zip hz ?_
      have I2 : Inv X pins σ H1 { s1 with heap := h' } := I1.kept (t' := s1.toks) hk
      refine ⟨s1.heap.objs.size + 4, five (s1.heap.objs.size + 4) (s1.heap.objs.size + 2) (s1.heap.objs.size + 3) s1.heap.objs.size (s1.heap.objs.size + 1), _, _, H1, rfl, I2,
        turn_zipB (t1 := t1) (t2 := t2) (PySem.W.ktu_apart s1.heap.objs.size a b (isB_lt p1) (isB_lt p2)), ⟨hz, hTI, ⟨_, _, hTO⟩, itB_new h1, itB_new h2⟩, fun c hcm => ?_, q⟩
      have e' : c = s1.heap.objs.size + 4 ∨ c = s1.heap.objs.size + 2 ∨ c = s1.heap.objs.size + 3 ∨ c = s1.heap.objs.size ∨ c = s1.heap.objs.size + 1 := by simpa using hcm
      have hle : s1.heap.objs.size ≤ c := by
        rcases e' with z | z | z | z | z
        · rw [z]; exact Nat.le_add_right _ _
        · rw [z]; exact Nat.le_add_right _ _
        · rw [z]; exact Nat.le_add_right _ _
        · rw [z]; exact Nat.le_refl _
        · rw [z]; exact Nat.le_add_right _ _
      exact I1.fpOk hle (I1.hok.fresh hle)
/-! ### as functions -/
def itZB (l : Lv) : Lv := fun en => (l en).bind fun x => match x.1 with
  | [d, e] => (lstD d).bind fun ds => (lstD e).bind fun es => some (zipD ds es, x.2)
  | _ => none
section
variable {X : Cx} {K : PySem.W.Frag} {G H : Hp}
theorem sqB_mono {t : Bool} {a : Addr} {xs : List V} (s : Same G H) (h : SqB K t G a xs) : SqB K t H a xs := by
  cases t
  · exact s.seq (show SqL K G a xs from h)
  · exact seqT s (show SqT K G a xs from h)
theorem jok_zipB {t1 t2 : Bool} {a b : Addr} {xs ys : List V} {ds es : List D} {G0 : Hp} (ha : SqB K t1 G0 a xs) (rx : Reps K G0 xs ds) (hb : SqB K t2 G0 b ys) (ry : Reps K G0 ys es) : JOk RepP K (ItzB K t1 t2 a b) G0 (zipD ds es) := fun i G H s1 s2 => by
  have qa := sqB_mono (s1.trans s2) ha
  have qb := sqB_mono (s1.trans s2) hb
  have la := rx.length
  have lb := ry.length
  have hl : (zipD ds es).length = min ds.length es.length := by simp [zipD]
  refine ⟨fun hi => ⟨xs, ys, qa, qb, by omega⟩, fun d hd => ?_⟩
  unfold zipD at hd
  rw [List.getElem?_map] at hd
  obtain ⟨⟨d1, d2⟩, e1, e2⟩ := Option.map_eq_some_iff.mp hd
  subst e2
  obtain ⟨h1, h2⟩ := List.getElem?_zip_eq_some.mp e1
  obtain ⟨v, v1, v2⟩ := rx.get' h1
  obtain ⟨w, w1, w2⟩ := ry.get' h2
  refine ⟨⟨xs, ys, v, w, qa, qb, v1, w1⟩, fun x H' ⟨T, x1, y1, e3, hT, e4, k1, k2⟩ => ?_⟩
  subst e3 e4
  have z1 := k1 xs qa
  have z2 := k2 ys qb
  rw [v1] at z1
  rw [w1] at z2
  cases z1
  cases z2
  exact repP_new s2 hT (.cons (v2.mono s1) (.cons (w2.mono s1) .nil))
theorem rep_sqB {v : V} {d : D} {ds : List D} (h : lstD d = some ds) (r : Rep K G v d) : ∃ (a : Addr) (t : Bool) (xs : List V), v = .ref a ∧ SqB K t G a xs ∧ Reps K G xs ds := by
  unfold lstD at h
  split at h
  · cases h
    cases r with
    | lst h1 q1 => exact ⟨_, false, _, rfl, h1, q1⟩
  · cases h
    cases r with
    | tup h1 q1 => exact ⟨_, true, _, rfl, h1.sq, q1⟩
  · cases h
theorem fi_zipB {e e2 : Expr} {l : Lv} {p pos tpos : Pos} {elts : List Expr} {kk : Nat} (hm : X.mg "zip" = none) (ha : PA X [e, e2] (FL X.K l)) (hg : Gl X "zip" := by rfl)
    (hs : starEach [e, e2] X.env = (false, eval e X.env) :: starEach [e2] X.env := by rfl) (hpl : (backTo pos (starEach [e2] X.env)).any (·.1) = false := by rfl) :
    PI X (.Tuple elts kk tpos) (.Call (.Name "zip" p) [e, e2] [] pos) (FI RepP X.K (itZB l)) :=
  pi_imp (pi_zipB hg hm ha hs hpl) fun σ H R ⟨G, en, ds, en', S, e1, k⟩ => by
    obtain ⟨⟨ds1, en1⟩, p1, e2⟩ := Option.bind_eq_some_iff.mp e1
    dsimp only at e2
    split at e2
    · obtain ⟨d1, q1, e2⟩ := Option.bind_eq_some_iff.mp e2
      obtain ⟨d2, q2, e2⟩ := Option.bind_eq_some_iff.mp e2
      cases e2
      refine ⟨G, en, _, _, S, p1, fun vs G' H' T r => ?_⟩
      cases r with
      | cons r1 r =>
        cases r with
        | cons r2 r =>
          cases r
          obtain ⟨a, t1, xs, rfl, h1, w1⟩ := rep_sqB q1 r1
          obtain ⟨b, t2, ys, rfl, h2, w2⟩ := rep_sqB q2 r2
          exact ⟨a, b, t1, t2, xs, ys, rfl, sqB_mono T.sr.sub h1, sqB_mono T.sr.sub h2, k _ _ _ T (jok_zipB h1 w1 h2 w2)⟩
    · cases e2
end
end Fx
/-! Fx33: a dict walked (its keys): it is locked as long. -/
namespace Fx
open PySem PySem.Spec L2
/-! ### the ends of a statement, at which one address may be unlocked -/
def Ul (X : Cx) (P : Hp → Prop) (H' : Hp) : Prop := P H' ∨ ∃ d od u, H' d = some (.frz od u) ∧ (∀ o' u', X.H_0 d ≠ some (.frz o' u')) ∧ P (upd H' d u)
def tUnS (X : Cx) (t : TS) : TS := fun D σ H => t ⟨fun σ' H' => Ul X (D.nx σ') H', fun v H' => Ul X (D.rt v) H', fun σ' H' => Ul X (D.bk σ') H', fun σ' H' => Ul X (D.ct σ') H'⟩ σ H
def tUnE (X : Cx) (t : TE) : TE := fun σ H Q => t σ H fun v H' => Ul X (Q v) H'
section
variable {X : Cx}
theorem ul_inv {pins : List (Addr × Obj)} {σ : St} {H : Hp} {s : Shared} {P : Hp → Prop} (I : Inv X pins σ H s) (q : Ul X P H) : ∃ H', Inv X pins σ H' s ∧ P H' := by
  rcases q with q | ⟨d, od, u, h, n, q⟩
  · exact ⟨H, I, q⟩
  · exact ⟨_, I.unlock h n, q⟩
theorem ps_unl {st : Stmt} {t : TS} (h : PS X st t) : PS X st (tUnS X t) := by
  refine ⟨fun pins s σ H D I hw => ?_⟩
  refine thn (h.run pins s σ _ _ I hw) fun f s1 q => ?_
  cases f with
  | next => obtain ⟨σ', H', I2, q⟩ := q; obtain ⟨H3, I3, q3⟩ := ul_inv I2 q; exact ⟨σ', H3, I3, q3⟩
  | brk => obtain ⟨σ', H', I2, q⟩ := q; obtain ⟨H3, I3, q3⟩ := ul_inv I2 q; exact ⟨σ', H3, I3, q3⟩
  | cont => obtain ⟨σ', H', I2, q⟩ := q; obtain ⟨H3, I3, q3⟩ := ul_inv I2 q; exact ⟨σ', H3, I3, q3⟩
  | ret v => obtain ⟨x, σ', H', I2, r, q⟩ := q; obtain ⟨H3, I3, q3⟩ := ul_inv I2 q; exact ⟨x, σ', H3, I3, r, q3⟩
theorem pe_unl {e : Expr} {t : TE} (h : PE X e t) : PE X e (tUnE X t) := by
  refine ⟨fun pins s σ H Q I hw => ?_⟩
  refine thn (h.run pins s σ _ _ I hw) fun v s1 ⟨x, H1, I2, r, q⟩ => ?_
  obtain ⟨H3, I3, q3⟩ := ul_inv I2 q
  exact ⟨x, H3, I3, r, q3⟩
end
/-! ### heaps alike but for a lock -/
def Lk (kvs : List (Key × V)) (y : HO) : Prop := y = .dK kvs ∨ ∃ o, y = .frz o (.dK kvs)
section
variable {K : PySem.W.Frag} {G H : Hp} {a : Addr} {kvs : List (Key × V)} {x y : HO}
theorem lk_get (hx : G a = some x) (lx : Lk kvs x) {b : Addr} {u : HO} (h : G b = some u) (n : ∀ kvs', u ≠ .dK kvs') (n2 : ∀ o kvs', u ≠ .frz o (.dK kvs')) : (upd G a y) b = some u := by
  have hb : b ≠ a := fun z => by
    subst z
    rw [hx] at h
    cases h
    rcases lx with e | ⟨o, e⟩
    · exact n _ e
    · exact n2 _ _ e
  rw [upd_ne hb]
  exact h
theorem lk_rd (hx : G a = some x) (lx : Lk kvs x) (ly : Lk kvs y) {b : Addr} {u : HO} (h : Rd G b u) (n : ∀ o kvs', u ≠ .frz o (.dK kvs')) : Rd (upd G a y) b u := by
  by_cases hb : b = a
  · subst hb
    have hu : u = .dK kvs := by
      rcases h with h | ⟨o, h⟩
      · rw [hx] at h
        cases h
        rcases lx with e | ⟨o, e⟩
        · exact e
        · exact absurd e (n _ _)
      · rw [hx] at h
        cases h
        rcases lx with e | ⟨o, e⟩
        · cases e
        · cases e
          rfl
    subst hu
    rcases ly with e | ⟨o, e⟩
    · exact .inl (by rw [upd_same, e])
    · exact .inr ⟨o, by rw [upd_same, e]⟩
  · rcases h with h | ⟨o, h⟩
    · exact .inl (by rw [upd_ne hb]; exact h)
    · exact .inr ⟨o, by rw [upd_ne hb]; exact h⟩
mutual
theorem Rep.swap (hx : G a = some x) (lx : Lk kvs x) (ly : Lk kvs y) : ∀ {v : V} {d : D}, Rep K G v d → Rep K (upd G a y) v d
  | _, _, .non => .non
  | _, _, .bl b => .bl b
  | _, _, .int i => .int i
  | _, _, .str x => .str x
  | _, _, .tup h r => .tup (by
      rcases h with ⟨o, h, hd⟩ | h
      · exact .inl ⟨o, lk_get hx lx h (fun _ z => nomatch z) (fun _ _ z => nomatch z), hd⟩
      · exact .inr h) (Reps.swap hx lx ly r)
  | _, _, .lst h r => .lst (by
      rcases h with h | h
      · exact .inl (lk_rd hx lx ly h (fun _ _ z => nomatch z))
      · exact .inr h) (Reps.swap hx lx ly r)
  | _, _, .dct h r => .dct (lk_rd hx lx ly h (fun _ _ z => nomatch z)) (RepKV.swap hx lx ly r)
theorem Reps.swap (hx : G a = some x) (lx : Lk kvs x) (ly : Lk kvs y) : ∀ {v : List V} {d : List D}, Reps K G v d → Reps K (upd G a y) v d
  | _, _, .nil => .nil
  | _, _, .cons h r => .cons (Rep.swap hx lx ly h) (Reps.swap hx lx ly r)
theorem RepKV.swap (hx : G a = some x) (lx : Lk kvs x) (ly : Lk kvs y) : ∀ {v : List (Key × V)} {d : List (D × D)}, RepKV K G v d → RepKV K (upd G a y) v d
  | _, _, .nil => .nil
  | _, _, .cons h r => .cons (Rep.swap hx lx ly h) (RepKV.swap hx lx ly r)
end
theorem RepO.swap (hx : G a = some x) (lx : Lk kvs x) (ly : Lk kvs y) : ∀ {o : HO} {d : D}, RepO K G o d → RepO K (upd G a y) o d
  | _, _, .lst r => .lst (r.swap hx lx ly)
  | _, _, .dK r => .dK (r.swap hx lx ly)
variable {en en1 : En} {σ σ1 : St} {G1 H1 : Hp}
theorem SR.swap (S : SR K G H en σ) (hx : G a = some x) (lx : Lk kvs x) (ly : Lk kvs y) : SR K (upd G a y) (upd H a y) en σ := by
  refine ⟨fun b u e => ?_, S.len, fun i d e => ?_, fun i d f e n => ?_, S.sep⟩
  · by_cases hb : b = a
    · subst hb
      rw [upd_same] at e ⊢
      exact e
    · rw [upd_ne hb] at e ⊢
      exact S.sub b u e
  · obtain ⟨v, e1, e2⟩ := S.shd i d e
    exact ⟨v, e1, e2.swap hx lx ly⟩
  · obtain ⟨b, u, e1, e2, e3, e4⟩ := S.own i d f e n
    have hb : b ≠ a := fun z => by rw [z, hx] at e2; cases e2
    exact ⟨b, u, e1, by rw [upd_ne hb]; exact e2, by rw [upd_ne hb]; exact e3, e4.swap hx lx ly⟩
theorem Ext.unlock {O : Addr → Prop} {od : Obj} (s : Same G H) (hx : G a = some (.dK kvs)) (T : Ext O (upd G a (.frz od (.dK kvs))) (upd H a (.frz od (.dK kvs))) G1 H1) : Ext O G H (upd G1 a (.dK kvs)) (upd H1 a (.dK kvs)) := by
  have hH := s _ _ hx
  refine ⟨fun b u e => ?_, fun b u e n => ?_, fun b u e n g => ?_, fun b e => ?_⟩
  · by_cases hb : b = a
    · subst hb
      rw [hx] at e
      rw [upd_same]
      exact e
    · rw [upd_ne hb]
      exact T.g b u (by rw [upd_ne hb]; exact e)
  · by_cases hb : b = a
    · subst hb
      rw [hH] at e
      rw [upd_same]
      exact e
    · rw [upd_ne hb]
      exact T.h b u (by rw [upd_ne hb]; exact e) n
  · by_cases hb : b = a
    · subst hb
      rw [hx] at g
      cases g
    · rw [upd_ne hb]
      exact T.n b u (by rw [upd_ne hb]; exact e) n (by rw [upd_ne hb]; exact g)
  · by_cases hb : b = a
    · subst hb
      rw [upd_same] at e
      cases e
    · rw [upd_ne hb] at e
      have := T.t b e
      rw [upd_ne hb] at this
      exact this
theorem StepS.unlock {od : Obj} (s : Same G H) (hx : G a = some (.dK kvs)) (T : StepS K en σ (upd G a (.frz od (.dK kvs))) (upd H a (.frz od (.dK kvs))) en1 σ1 G1 H1) : StepS K en σ G H en1 σ1 (upd G1 a (.dK kvs)) (upd H1 a (.dK kvs)) := by
  have g1 : G1 a = some (.frz od (.dK kvs)) := T.ext.g _ _ upd_same
  refine ⟨T.ext.unlock s hx, T.sr.swap g1 (.inr ⟨od, rfl⟩) (.inl rfl), fun b q => ?_, T.lent⟩
  rcases T.own b q with z | z
  · exact .inl z
  · by_cases hb : b = a
    · subst hb
      rw [upd_same] at z
      cases z
    · rw [upd_ne hb] at z
      exact .inr z
theorem Step.unlock {od : Obj} (s : Same G H) (hx : G a = some (.dK kvs)) (T : Step K en en1 σ (upd G a (.frz od (.dK kvs))) (upd H a (.frz od (.dK kvs))) G1 H1) : Step K en en1 σ G H (upd G1 a (.dK kvs)) (upd H1 a (.dK kvs)) := by
  have g1 : G1 a = some (.frz od (.dK kvs)) := T.ext.g _ _ upd_same
  exact ⟨T.ext.unlock s hx, T.sr.swap g1 (.inr ⟨od, rfl⟩) (.inl rfl), T.own, T.lent⟩
theorem Res.unlock {O O' : Addr → Prop} {v : V} {d : D} {b : Bool} {od : Obj} (s : Same G H) (hx : G a = some (.dK kvs)) (g1 : G1 a = some (.frz od (.dK kvs))) (r : Res K O (upd H a (.frz od (.dK kvs))) O' G1 H1 v d b) : Res K O H O' (upd G1 a (.dK kvs)) (upd H1 a (.dK kvs)) v d b := by
  cases b with
  | false => exact Rep.swap g1 (.inr ⟨od, rfl⟩) (.inl rfl) r
  | true =>
    obtain ⟨c, o, e, q1, q2, q3, q4, q5⟩ := r
    have hc : c ≠ a := fun z => by rw [z, g1] at q4; cases q4
    refine ⟨c, o, e, ?_, q2, by rw [upd_ne hc]; exact q3, by rw [upd_ne hc]; exact q4, q5.swap g1 (.inr ⟨od, rfl⟩) (.inl rfl)⟩
    rcases q1 with q1 | q1
    · rw [upd_ne hc] at q1
      exact .inl q1
    · exact .inr q1
end
/-! ### what a for walks, a dict among them -/
def seqE : D → Option (List D)
  | .dict es => some (es.map (·.1))
  | d => seqD d
def itE (f : Vv) : Lv := fun en => (f en).bind fun x => (seqE x.1).map fun ds => (ds, x.2)
/-- as it stands, or locked at an address -/
def LkG (X : Cx) (G1 H1 G2 H2 : Hp) : Prop := (G2 = G1 ∧ H2 = H1) ∨ ∃ a od kvs, G1 a = some (.dK kvs) ∧ (∀ o' u', X.H_0 a ≠ some (.frz o' u')) ∧ G2 = upd G1 a (.frz od (.dK kvs)) ∧ H2 = upd H1 a (.frz od (.dK kvs))
def FIK (X : Cx) (f : Lv) : TI := fun σ H R => ∃ G en ds en', SR X.K G H en σ ∧ f en = some (ds, en') ∧ ∀ J G1 H1 G2 H2, Step X.K en en' σ G H G1 H1 → LkG X G1 H1 G2 H2 → SR X.K G2 H2 en' σ → JOk Rep X.K J G2 ds → R J H2
section
variable {X : Cx} {tg e : Expr} {pos p : Pos} {K : PySem.W.Frag}
theorem repKV_get {G : Hp} : ∀ {kvs : List (Key × V)} {es : List (D × D)} (i : Nat) (d : D), RepKV K G kvs es → (es.map (·.1))[i]? = some d → ∃ k v, kvs[i]? = some (k, v) ∧ d = kD k
  | _, _, _, _, .nil, h => by simp at h
  | _, _, 0, _, .cons (k := k) (v := v) _ _, h => by
    cases h
    exact ⟨k, v, rfl, rfl⟩
  | _, _, i + 1, d, .cons _ t, h => repKV_get i d t h
theorem repKV_len {G : Hp} : ∀ {kvs : List (Key × V)} {es : List (D × D)}, RepKV K G kvs es → kvs.length = es.length
  | _, _, .nil => rfl
  | _, _, .cons _ t => congrArg Nat.succ (repKV_len t)
theorem rep_kD {G : Hp} (k : Key) : Rep K G (kV k) (kD k) := by
  cases k
  · exact .int _
  · exact .str _
theorem jok_keys {a : Addr} {o : Obj} {kvs : List (Key × V)} {es : List (D × D)} {G0 : Hp} (h : G0 a = some (.frz o (.dK kvs))) (r : RepKV K G0 kvs es) : JOk Rep K (Itk a o kvs) G0 (es.map (·.1)) := fun i G H s1 s2 => by
  have hq := (s1.trans s2) _ _ h
  have hl := repKV_len r
  refine ⟨fun hi => ⟨hq, by rw [List.length_map] at hi; omega⟩, fun d hd => ?_⟩
  obtain ⟨k, v, e1, e2⟩ := repKV_get i d r hd
  refine ⟨⟨hq, (List.getElem?_eq_some_iff.mp e1).1⟩, fun x H' ⟨e, k', v', e3, e4⟩ => ?_⟩
  subst e
  rw [e1] at e3
  cases e3
  subst e4 e2
  exact ⟨G, New.refl s2, rep_kD k⟩
theorem fi_valE {f : Vv} (he : PE X e (FV X.K f)) : PI X tg e (FIK X (itE f)) := by
  refine ⟨fun pins s σ H R I ⟨G, en, ds, en', S, e1, k⟩ => ?_⟩
  obtain ⟨⟨d, en1⟩, p1, e2⟩ := Option.bind_eq_some_iff.mp e1
  obtain ⟨ds', q1, q2⟩ := Option.map_eq_some_iff.mp e2
  cases q2
  refine thn (he.run pins s σ H (fun v H1 => ∃ G1, Step X.K en en1 σ G H G1 H1 ∧ Rep X.K G1 v d) I ⟨G, en, d, en1, S, p1, fun v G1 H1 T r => ⟨G1, T, r⟩⟩) fun u s1 ⟨v, H1, I1, rv, G1, T, r⟩ => ?_
  cases r with
  | tup h rr =>
    cases q1
    cases rv
    obtain ⟨its, ri, ht, hz⟩ := I1.tuple (seqT T.sr.sub h.sq)
    refine wpAny_pyIter_tuple (items := its.toArray) ht ?_
    exact pi_one (tk := s1.toks) I1 _ (turn_tuple _ _) ⟨_, Heap.get?_push_size _ rfl, rfl, rfl⟩ (k _ _ _ _ _ T (.inl ⟨rfl, rfl⟩) T.sr (jok_tup h rr))
  | lst h rr =>
    cases q1
    cases rv
    obtain ⟨its, ri, ht, hz⟩ := I1.list (T.sr.sub.seq h)
    refine wpAny_pyIter_list ht.isList ?_
    exact pi_one (tk := s1.toks) I1 _ (turn_list _ _) ⟨_, Heap.get?_push_size _ rfl, rfl, rfl⟩ (k _ _ _ _ _ T (.inl ⟨rfl, rfl⟩) T.sr (jok_list h rr))
  | str z =>
    cases q1
    obtain ⟨t, rfl⟩ := rv
    cases ha : z.cps.all (· < 128) with
    | true => exact wpAny_pyIter_ascii ha (pi_one (tk := s1.toks) I1 _ (turn_str _ z t "str_ascii_iterator" (.inl rfl)) ⟨_, Heap.get?_push_size _ rfl, rfl, rfl⟩ (k _ _ _ _ _ T (.inl ⟨rfl, rfl⟩) T.sr jok_str))
    | false => exact wpAny_pyIter_wide ha (pi_one (tk := s1.toks) I1 _ (turn_str _ z t "str_iterator" (.inr rfl)) ⟨_, Heap.get?_push_size _ rfl, rfl, rfl⟩ (k _ _ _ _ _ T (.inl ⟨rfl, rfl⟩) T.sr jok_str))
  | @dct a kvs es h rr =>
    cases q1
    have eu : u = Value.ref a := rv
    subst eu
    rcases h with h | ⟨o, h⟩
    · obtain ⟨od, I2⟩ := I1.lock (T.sr.sub _ _ h) trivial
      have nf := I1.nofrz (T.sr.sub _ _ h) trivial
      obtain ⟨hs, hgd, hx, es', ep, vs, hdt, hsz, kv, hm⟩ := I2.frzK upd_same
      refine iter_keys hs hgd hx hdt (pi_one (tk := s1.toks) I2 _ (turn_keys _ hdt) ⟨_, Heap.get?_push_size _ rfl, rfl, ?_⟩ (k _ _ _ _ _ T (.inr ⟨_, od, _, h, nf, rfl, rfl⟩) (T.sr.swap h (.inl rfl) (.inr ⟨od, rfl⟩)) (jok_keys upd_same (rr.swap h (.inl rfl) (.inr ⟨od, rfl⟩)))))
      rw [hsz] <;> rfl
    · have hd := T.sr.sub _ _ h
      obtain ⟨hs, hgd, hx, es', ep, vs, hdt, hsz, kv, hm⟩ := I1.frzK hd
      refine iter_keys hs hgd hx hdt (pi_one (tk := s1.toks) I1 _ (turn_keys _ hdt) ⟨_, Heap.get?_push_size _ rfl, rfl, ?_⟩ (k _ _ _ _ _ T (.inl ⟨rfl, rfl⟩) T.sr (jok_keys h rr)))
      rw [hsz] <;> rfl
  | non => cases q1
  | bl b => cases q1
  | int i => cases q1
theorem fs_forE {iter : Expr} {body : List Stmt} {it : Lv} {ts : List Nat} {s : Gv} {b : Sv} (hp : PassesOwn (model X.prog X.w) X.A X.env X.xe) (hc : X.calm = true) (hi : PI X tg iter (FIK X it)) (hg : PG X tg (FG Rep X.K ts s)) (hb : PSs X body (FS X.K b)) (hs : ∀ x, foldedSetIterable iter X.env x = pure x := by intro _; rfl) :
    PS X (.For tg iter body [] pos) (FS X.K (sFor it s b)) := ps_imp (ps_unl (ps_for hp hc hi hg hb hs)) fun D σ H ⟨G, en, o, en', S, e1, k⟩ => by
  obtain ⟨⟨ds, en1⟩, p1, e2⟩ := Option.bind_eq_some_iff.mp e1
  refine ⟨G, en, ds, en1, S, p1, fun J G0 H0 G1 H1 T0 lk S1 hJ => ?_⟩
  have k' : OutR X.K ⟨fun σ' H' => Ul X (D.nx σ') H', fun v H' => Ul X (D.rt v) H', fun σ' H' => Ul X (D.bk σ') H', fun σ' H' => Ul X (D.ct σ') H'⟩ en1 σ G1 H1 en' o := by
    rcases lk with ⟨rfl, rfl⟩ | ⟨a, od, kvs, h, nf, rfl, rfl⟩
    · cases o with
      | nx => exact fun G' H' σ' T => .inl (k G' H' σ' (T0.s.trans T))
      | bk => exact fun G' H' σ' T => .inl (k G' H' σ' (T0.s.trans T))
      | ct => exact fun G' H' σ' T => .inl (k G' H' σ' (T0.s.trans T))
      | rt d b => exact fun v G' H' σ' T r => .inl (k v G' H' σ' (T0.s.trans T) (resS T0.s r))
    · have fr : ∀ {G' H' : Hp} {σ' : St}, StepS X.K en1 σ (upd G0 a (.frz od (.dK kvs))) (upd H0 a (.frz od (.dK kvs))) en' σ' G' H' → G' a = some (.frz od (.dK kvs)) ∧ H' a = some (.frz od (.dK kvs)) := fun T => ⟨T.ext.g _ _ upd_same, T.sr.sub _ _ (T.ext.g _ _ upd_same)⟩
      cases o with
      | nx => exact fun G' H' σ' T => .inr ⟨a, od, _, (fr T).2, nf, k _ _ σ' (T0.s.trans (T.unlock T0.sr.sub h))⟩
      | bk => exact fun G' H' σ' T => .inr ⟨a, od, _, (fr T).2, nf, k _ _ σ' (T0.s.trans (T.unlock T0.sr.sub h))⟩
      | ct => exact fun G' H' σ' T => .inr ⟨a, od, _, (fr T).2, nf, k _ _ σ' (T0.s.trans (T.unlock T0.sr.sub h))⟩
      | rt d b => exact fun v G' H' σ' T r => .inr ⟨a, od, _, (fr T).2, nf, k v _ _ σ' (T0.s.trans (T.unlock T0.sr.sub h)) (resS T0.s (Res.unlock (G := G0) T0.sr.sub h (fr T).1 r))⟩
  refine ⟨fun i m σ2 H2 => ∃ G2 en2, StepS X.K en1 σ G1 H1 en2 σ2 G2 H2 ∧ Same G1 G2 ∧ m = ds.length - i ∧ forL s b (ds.drop i) en2 = some (o, en'), ⟨_, G1, en1, StepS.refl S1, Same.refl _, rfl, e2⟩, ?_⟩
  rintro i m σ2 H2 ⟨G2, en2, T2, g2, rfl, w⟩
  obtain ⟨j1, j2⟩ := hJ i G2 H2 g2 T2.sr.sub
  by_cases hi : i < ds.length
  · rw [List.drop_eq_getElem_cons hi] at w
    obtain ⟨en3, p3, e3⟩ := Option.bind_eq_some_iff.mp w
    obtain ⟨⟨o4, en4⟩, p4, e4⟩ := Option.bind_eq_some_iff.mp e3
    obtain ⟨j3, j4⟩ := j2 ds[i] (List.getElem?_eq_getElem hi)
    refine .inr ⟨j3, fun σ' H' => ∃ G' e', StepS X.K en1 σ G1 H1 e' σ' G' H' ∧ Same G1 G' ∧ forL s b (ds.drop (i + 1)) e' = some (o, en'), fun σ' H' ⟨G', e', T', g', w'⟩ => ⟨ds.length - (i + 1), by omega, G', e', T', g', rfl, w'⟩, fun x H3 hy => ?_⟩
    obtain ⟨G3, N3, r3⟩ := j4 x H3 hy
    have T3 := T2.trans (N3.step T2.sr).s
    refine ⟨G3, en2, _, en3, T3.sr, r3, p3, fun σ4 G4 H4 T4 _ => ?_⟩
    have T34 := T3.trans T4.s
    have g4 : Same G1 G4 := (g2.trans N3.ext.g).trans T4.ext.g
    refine ⟨G4, en3, o4, en4, T4.sr, p4, ?_⟩
    cases o4 with
    | nx => exact fun G' H' σ' T5 => ⟨G', en4, T34.trans T5, g4.trans T5.ext.g, e4⟩
    | ct => exact fun G' H' σ' T5 => ⟨G', en4, T34.trans T5, g4.trans T5.ext.g, e4⟩
    | bk =>
      cases e4
      exact fun G' H' σ' T5 => k' G' H' σ' (T34.trans T5)
    | rt d b =>
      cases e4
      exact fun v G' H' σ' T5 r => k' v G' H' σ' (T34.trans T5) (resS T34 r)
  · rw [List.drop_eq_nil_of_le (by omega)] at w
    cases w
    exact .inl ⟨j1 (by omega), k' G2 H2 σ2 T2⟩
theorem lcE_of {vs ts : List Nat} {it : Lv} {s : Gv} {t : Tv} {f : Vv} (hts : ∀ i ∈ ts, i ∈ vs) {σ : St} {H : Hp} {Q : VK} (h : FE X.K (fLc vs it s t f) σ H Q) : tLc (FIK X it) (FG Rep X.K ts s) (FT X.K t) (FV X.K f) vs σ H fun v H' => Ul X (Q v) H' := by
  obtain ⟨G, en, z, zb, en', S, e1, k⟩ := h
  obtain ⟨⟨ds, en1⟩, p1, e2⟩ := Option.bind_eq_some_iff.mp e1
  obtain ⟨⟨rs, en2⟩, p2, e3⟩ := Option.bind_eq_some_iff.mp e2
  obtain ⟨hz, e4⟩ := ite_some e3
  cases e4
  refine ⟨G, en, ds, en1, S, p1, fun J G0 H0 G1 H1 T0 lk S1 hJ => lcJ_of (R := Rep) (J := J) (Q := fun v H2 => Ul X (Q v) H2) hts S1 p2 hz (fun i G H s1 s2 _ => hJ i G H s1 s2) fun v G' H' T r => ?_⟩
  rcases lk with ⟨rfl, rfl⟩ | ⟨a, od, kvs, h, nf, rfl, rfl⟩
  · exact .inl (k v G' H' (T0.trans T) (res_trans T0 r))
  · have g1 : G' a = some (.frz od (.dK kvs)) := T.ext.g _ _ upd_same
    have h1 : H' a = some (.frz od (.dK kvs)) := T.sr.sub _ _ g1
    exact .inr ⟨a, od, _, h1, nf, k v _ _ (T0.trans (T.unlock T0.sr.sub h)) (res_trans T0 (Res.unlock (G := G0) T0.sr.sub h g1 r))⟩
theorem fe_lcE {elt tg iter : Expr} {ifs : List Expr} {scope : Scope} {own : List (Str × Nat)} {ts : List Nat} {it : Lv} {s : Gv} {t : Tv} {f : Vv} (hc : X.calm = true) (hN : X.N.Nodup) (hi : PI X tg iter (FIK X it)) (ok : BlkOk X.N X.env.scope scope own) (hts : ∀ i ∈ ts, i ∈ own.map (·.2))
    (hg : ∀ (s' : Shared) (H : Hp) (C : Addr) (cl : List (Str × Addr)) (fp : List Addr), PG (X.blk s' H scope (compEnvC scope cl C X.env) fp) tg (FG Rep X.K ts s))
    (ht : ∀ (s' : Shared) (H : Hp) (C : Addr) (cl : List (Str × Addr)) (fp : List Addr), PTs (X.blk s' H scope (compEnvC scope cl C X.env) fp) ifs (FT X.K t))
    (he : ∀ (s' : Shared) (H : Hp) (C : Addr) (cl : List (Str × Addr)) (fp : List Addr), PE (X.blk s' H scope (compEnvC scope cl C X.env) fp) elt (FV X.K f)) (hs : ∀ x, foldedSetIterable iter X.env x = pure x := by intro _; rfl) :
    PE X (.ListComp elt [⟨tg, iter, ifs, 0⟩] scope pos) (FE X.K (fLc (own.map (·.2)) it s t f)) := pe_imp (pe_unl (pe_lc hc hN hi ok hg ht he hs)) fun _ _ _ h => lcE_of hts h
theorem fs_setLcE {i : Nat} {y : Str} {py spos : Pos} {elt tg iter : Expr} {ifs : List Expr} {scope : Scope} {own : List (Str × Nat)} {ts : List Nat} {it : Lv} {s : Gv} {t : Tv} {f : Vv} (hc : X.calm = true) (hN : X.N.Nodup) (hi : PI X tg iter (FIK X it)) (ok : BlkOk X.N X.env.scope scope own) (hts : ∀ i ∈ ts, i ∈ own.map (·.2))
    (hg : ∀ (s' : Shared) (H : Hp) (C : Addr) (cl : List (Str × Addr)) (fp : List Addr), PG (X.blk s' H scope (compEnvC scope cl C X.env) fp) tg (FG Rep X.K ts s))
    (ht : ∀ (s' : Shared) (H : Hp) (C : Addr) (cl : List (Str × Addr)) (fp : List Addr), PTs (X.blk s' H scope (compEnvC scope cl C X.env) fp) ifs (FT X.K t))
    (he : ∀ (s' : Shared) (H : Hp) (C : Addr) (cl : List (Str × Addr)) (fp : List Addr), PE (X.blk s' H scope (compEnvC scope cl C X.env) fp) elt (FV X.K f))
    (hy : X.N[i]? = some y := by rfl) (hyl : X.env.scope.names.lookup y = some .local := by rfl) (hsw : swapsWith (.ListComp elt [⟨tg, iter, ifs, 0⟩] scope pos) (some (.Name y py)) spos.line X.env = pure true := by exact sw_true rfl rfl rfl (by decide +kernel)) (hs : ∀ x, foldedSetIterable iter X.env x = pure x := by intro _; rfl) :
    PS X (.Assign [.Name y py] (.ListComp elt [⟨tg, iter, ifs, 0⟩] scope pos) spos) (FS X.K (sSet i (fLc (own.map (·.2)) it s t f))) := ps_imp (ps_unl (ps_setLc hc hN hy hyl hsw hi ok hg ht he hs)) fun D σ H ⟨G, en, o, en', S, e1, k⟩ => by
  obtain ⟨⟨d, b, en1⟩, p1, e2⟩ := Option.bind_eq_some_iff.mp e1
  obtain ⟨hl, e3⟩ := ite_some e2
  cases e3
  exact lcE_of hts (Q := fun v H' => D.nx (σ.set i (some v)) H') ⟨G, en, d, b, en1, S, p1, fun v G1 H1 T r => k G1 H1 _ (T.s.store hl r)⟩
end
end Fx
/-! Fx34: dict(zip(a, b)) of a list or tuple each. -/
namespace Fx
open PySem PySem.Spec L2
section
variable {P : Program} {w : World} {A : Around} {E : Value → Shared → Prop} {s : Shared} {z TI TO T i1 i2 : Addr} {fp1 fp2 : List Addr} {n1 n2 i : Nat} {P1 P2 : Nat → Value → Prop} {St1 St2 : Nat → Heap → Prop} {f : Bool} {oT : Obj}
/-- a turn of zip while the tuple that was given out is still held: a new tuple -/
theorem zipH_item {Q : Value → Shared → Prop} (S : ZipSep2 z TI TO i1 i2 fp1 fp2) (D1 : Draws P w A i1 fp1 n1 P1 St1) (D2 : Draws P w A i2 fp2 n2 P2 St2)
    (hz : IsZipHeld s.heap z TI TO T f) (hT : s.heap.get? T = some oT) (hTI : IsTupOf2 s.heap TI (.ref i1) (.ref i2)) (st1 : St1 i s.heap) (st2 : St2 i s.heap) (l1 : i < n1) (l2 : i < n2)
    (hQ : ∀ x1 x2 h' tk, P1 i x1 → P2 i x2 → IsZipHeld h' z TI TO T true → St1 (i + 1) h' → St2 (i + 1) h' → IsTupOf2 h' s.heap.objs.size x1 x2 → h'.objs.size = s.heap.objs.size + 1 →
      (∀ c o, c ≠ z → c ≠ i1 → c ≠ i2 → s.heap.get? c = some o → h'.get? c = some o) → Q (.ref s.heap.objs.size) { s with heap := h', toks := tk }) :
    wpAny (model P w) A (Builtin.«zip.__next__» ⟨[.ref z], []⟩) (fun fin s' => ∃ v, fin = .done (.ret v) ∧ Q v s') E s := by
  obtain ⟨hp, gn, dr, tk0, os⟩ := s
  show wpAny _ _ (field (.ref z) 2 >>= _) _ _ _
  refine wpAny_bind (wpAny_field hz rfl (x := .bool false) rfl ?_)
  show wpAny _ _ (field (.ref z) 3 >>= _) _ _ _
  refine wpAny_bind (wpAny_field hz rfl (x := .ref TI) rfl ?_)
  refine wpAny_bind (wpAny_seqItems hTI rfl ?_)
  show wpAny _ _ (Builtin.SmallTypes.ownedTupleIsFree (.ref z) >>= _) _ _ _
  refine wpAny_bind (wpAny_tupleHeld_zip hz hT fun g0 hz0 hs0 => ?_)
  replace hs0 : Heap.SameBut z hp g0 := hs0
  simp only [Bool.false_eq_true, if_false]
  refine wpAny_bind ?_
  rw [← Array.forIn_toList]
  simp only [List.forIn_cons, List.forIn_nil]
  refine wpAny_bind (wpAny_bind (wpAny_holding ?_))
  show wpAny _ _ (Builtin.SmallTypes.nextOf (.ref i1) >>= _) _ _ ⟨g0, gn, dr, tk0, os⟩
  refine wpAny_bind (D1.item i _ _ _ l1 (D1.over st1 hs0 S.zf1) fun x1 p1 tk1 hx1 sn1 hp1 => wpAny_pure ?_)
  replace hp1 : Heap.SameBut i1 g0 p1 := hp1
  refine wpAny_pure ?_
  refine wpAny_bind (wpAny_bind (wpAny_holding ?_))
  show wpAny _ _ (Builtin.SmallTypes.nextOf (.ref i2) >>= _) _ _ ⟨p1, gn, dr, tk1, os⟩
  refine wpAny_bind (D2.item i _ _ _ l2 (D2.over (D2.over st2 hs0 S.zf2) hp1 S.sep1_2) fun x2 p2 tk2 hx2 sn2 hp2 => wpAny_pure ?_)
  replace hp2 : Heap.SameBut i2 p1 p2 := hp2
  refine wpAny_pure (wpAny_pure ?_)
  show wpAny _ _ (newTuple [x1, x2] >>= _) _ _ ⟨p2, gn, dr, tk2, os⟩
  refine wpAny_bind (wpAny_newTuple ?_)
  have hsz : p2.objs.size = hp.objs.size := by rw [hp2.1, hp1.1, hs0.1]
  have hz2 : IsZipHeld p2 z TI TO T true := hp2.extBut _ _ S.zi2 (hp1.extBut _ _ S.zi1 hz0)
  have hk : ∀ c o, c ≠ z → c ≠ i1 → c ≠ i2 → hp.get? c = some o → p2.get? c = some o := fun c o cz c1 c2 e => hp2.extBut _ _ c2 (hp1.extBut _ _ c1 (hs0.extBut _ _ cz e))
  have hj1 : St1 (i + 1) p2 := D1.over sn1 hp2 S.sep2_1
  have push : ∀ (c : Addr) (o : Obj), p2.get? c = some o → (p2.push { cls := .type "tuple", data := .seq #[x1, x2] }).get? c = some o := fun c o e => Heap.get?_push_of_some _ e
  refine wpAny_pure ⟨_, rfl, ?_⟩
  show Q (.ref p2.objs.size) ⟨p2.push { cls := .type "tuple", data := .seq #[x1, x2] }, gn, dr, tk2, os⟩
  have hp' : IsTupOf2 (p2.push { cls := .type "tuple", data := .seq #[x1, x2] }) p2.objs.size x1 x2 := Heap.get?_push_size _ rfl
  have hz' : (p2.push { cls := .type "tuple", data := .seq #[x1, x2] }).objs.size = p2.objs.size + 1 := Heap.size_push ..
  rw [hsz] at hp' hz' ⊢
  exact hQ x1 x2 _ tk2 hx1 hx2 (push _ _ hz2) (D1.frame _ _ _ hj1 fun b _ o e => push b o e) (D2.frame _ _ _ sn2 fun b _ o e => push b o e) hp' hz' fun c o cz c1 c2 e => push c o (hk c o cz c1 c2 e)
theorem zipH_end {Q : Fin → Shared → Prop} (S : ZipSep2 z TI TO i1 i2 fp1 fp2) (D1 : Draws P w A i1 fp1 n1 P1 St1) (D2 : Draws P w A i2 fp2 n2 P2 St2)
    (hz : IsZipHeld s.heap z TI TO T f) (hT : s.heap.get? T = some oT) (hTI : IsTupOf2 s.heap TI (.ref i1) (.ref i2)) (st1 : St1 i s.heap) (st2 : St2 i s.heap) (l1 : i ≤ n1) (l2 : i ≤ n2) (hend : i = n1 ∨ i = n2)
    (hE : ∀ h' tk e, (∀ c o, c ≠ z → c ≠ i1 → c ≠ i2 → s.heap.get? c = some o → h'.get? c = some o) → (∃ o, h'.get? e = some o ∧ o.cls = .type "StopIteration") → E (.ref e) { s with heap := h', toks := tk }) :
    wpAny (model P w) A (Builtin.«zip.__next__» ⟨[.ref z], []⟩) Q E s := by
  obtain ⟨hp, gn, dr, tk0, os⟩ := s
  show wpAny _ _ (field (.ref z) 2 >>= _) _ _ _
  refine wpAny_bind (wpAny_field hz rfl (x := .bool false) rfl ?_)
  show wpAny _ _ (field (.ref z) 3 >>= _) _ _ _
  refine wpAny_bind (wpAny_field hz rfl (x := .ref TI) rfl ?_)
  refine wpAny_bind (wpAny_seqItems hTI rfl ?_)
  show wpAny _ _ (Builtin.SmallTypes.ownedTupleIsFree (.ref z) >>= _) _ _ _
  refine wpAny_bind (wpAny_tupleHeld_zip hz hT fun g0 hz0 hs0 => ?_)
  replace hs0 : Heap.SameBut z hp g0 := hs0
  simp only [Bool.false_eq_true, if_false]
  refine wpAny_bind ?_
  rw [← Array.forIn_toList]
  simp only [List.forIn_cons, List.forIn_nil]
  refine wpAny_bind (wpAny_bind (wpAny_holding ?_))
  show wpAny _ _ (Builtin.SmallTypes.nextOf (.ref i1) >>= _) _ _ ⟨g0, gn, dr, tk0, os⟩
  by_cases hl : i < n1
  · refine wpAny_bind (D1.item i _ _ _ hl (D1.over st1 hs0 S.zf1) fun x1 p1 tk1 hx1 sn1 hp1 => wpAny_pure ?_)
    replace hp1 : Heap.SameBut i1 g0 p1 := hp1
    refine wpAny_pure ?_
    refine wpAny_bind (wpAny_bind (wpAny_holding ?_))
    show wpAny _ _ (Builtin.SmallTypes.nextOf (.ref i2) >>= _) _ _ ⟨p1, gn, dr, tk1, os⟩
    have e2 : i = n2 := by omega
    refine wpAny_bind (D2.done ⟨p1, gn, dr, tk1, os⟩ _ _ (by rw [← e2]; exact D2.over (D2.over st2 hs0 S.zf2) hp1 S.sep1_2) fun q e hq he => ?_)
    exact hE q tk1 e (fun c o cz c1 c2 x => hq _ _ c2 (hp1.extBut _ _ c1 (hs0.extBut _ _ cz x))) he
  · have e1 : i = n1 := by omega
    refine wpAny_bind (D1.done ⟨g0, gn, dr, tk0, os⟩ _ _ (by rw [← e1]; exact D1.over st1 hs0 S.zf1) fun q e hq he => ?_)
    exact hE q tk0 e (fun c o cz c1 _ x => hq _ _ c1 (hs0.extBut _ _ cz x)) he
theorem nextH_item {Q : Option Value → Shared → Prop} (S : ZipSep2 z TI TO i1 i2 fp1 fp2) (D1 : Draws P w A.in1 i1 fp1 n1 P1 St1) (D2 : Draws P w A.in1 i2 fp2 n2 P2 St2)
    (hz : IsZipHeld s.heap z TI TO T f) (hT : s.heap.get? T = some oT) (hTI : IsTupOf2 s.heap TI (.ref i1) (.ref i2)) (st1 : St1 i s.heap) (st2 : St2 i s.heap) (l1 : i < n1) (l2 : i < n2)
    (hQ : ∀ x1 x2 h' tk, P1 i x1 → P2 i x2 → IsZipHeld h' z TI TO T true → St1 (i + 1) h' → St2 (i + 1) h' → IsTupOf2 h' s.heap.objs.size x1 x2 → h'.objs.size = s.heap.objs.size + 1 →
      (∀ c o, c ≠ z → c ≠ i1 → c ≠ i2 → s.heap.get? c = some o → h'.get? c = some o) → Q (some (.ref s.heap.objs.size)) { s with heap := h', toks := tk }) :
    wpAny (model P w) A (pyNext (.ref z)) Q E s := by
  have hTy : s.TypeIs (.ref z) "zip" := ⟨_, hz, rfl⟩
  unfold pyNext
  exact wpAny_bind (wpAny_attempt (wpAny_callSpecial?_slot (name := Str.ofString "__next__") hTy F.slot_zip_next (wpAny_call_entry F.slot_zip_next hTy F.entry_zip_next
    (zipH_item S D1 D2 hz hT hTI st1 st2 l1 l2 fun x1 x2 h' tk q1 q2 q3 q4 q5 q6 q7 q8 => wpAny_pure (hQ x1 x2 h' tk q1 q2 q3 q4 q5 q6 q7 q8)) (F.args_zip_next_1 _))))
theorem nextH_end {Q : Option Value → Shared → Prop} (S : ZipSep2 z TI TO i1 i2 fp1 fp2) (D1 : Draws P w A.in1 i1 fp1 n1 P1 St1) (D2 : Draws P w A.in1 i2 fp2 n2 P2 St2)
    (hz : IsZipHeld s.heap z TI TO T f) (hT : s.heap.get? T = some oT) (hTI : IsTupOf2 s.heap TI (.ref i1) (.ref i2)) (st1 : St1 i s.heap) (st2 : St2 i s.heap) (l1 : i ≤ n1) (l2 : i ≤ n2) (hend : i = n1 ∨ i = n2)
    (hQ : ∀ h' tk, (∀ c o, c ≠ z → c ≠ i1 → c ≠ i2 → s.heap.get? c = some o → h'.get? c = some o) → Q none { s with heap := h', toks := tk }) :
    wpAny (model P w) A (pyNext (.ref z)) Q E s := by
  have hTy : s.TypeIs (.ref z) "zip" := ⟨_, hz, rfl⟩
  unfold pyNext
  refine wpAny_bind (wpAny_attempt (wpAny_callSpecial?_slot (name := Str.ofString "__next__") hTy F.slot_zip_next (wpAny_call_entry F.slot_zip_next hTy F.entry_zip_next
    (zipH_end S D1 D2 hz hT hTI st1 st2 l1 l2 hend fun h' tk e hk he => ?_) (F.args_zip_next_1 _))))
  obtain ⟨o, ho, hc⟩ := he
  exact wpAny_bind (wpAny_isInstance (T := "StopIteration") (b := true) ⟨o, ho, hc⟩ isSubtype_stop (wpAny_pure (hQ _ _ hk)))
end
end Fx
/-! Fx35: dict(zip(a, b)) of a list or tuple each: the pairs. -/
namespace Fx
open PySem PySem.Spec L2
section
variable {P : Program} {w : World} {z TI TO i1 i2 a b : Addr} {t1 t2 : Bool} {xs ys : Array Value}
def FreeZ (t1 t2 : Bool) (z TI TO i1 i2 a b : Addr) (xs ys : Array Value) (i : Nat) (h : Heap) : Prop := IsZip h z TI TO .none ∧ IsTupOf2 h TI (.ref i1) (.ref i2) ∧ (∃ x y, IsTupOf2 h TO x y) ∧ itB t1 h i1 a i ∧ itB t2 h i2 b i ∧ isB t1 h a xs ∧ isB t2 h b ys
def HeldZ (d : Addr) (t1 t2 : Bool) (z TI TO i1 i2 a b : Addr) (xs ys : Array Value) (i : Nat) (h : Heap) : Prop := ∃ T f oT, T ≠ d ∧ IsZipHeld h z TI TO T f ∧ h.get? T = some oT ∧ IsTupOf2 h TI (.ref i1) (.ref i2) ∧ itB t1 h i1 a i ∧ itB t2 h i2 b i ∧ isB t1 h a xs ∧ isB t2 h b ys
theorem srcB {A : Around} (D : ZipApart z TI TO i1 i2 a b) (hh : A.handled = none) {d : Addr} (hd : d ∉ [z, TI, TO, i1, i2, a, b]) :
    PairSrc P w A z d [z, TO, i1, i2] (min xs.size ys.size) (fun i k v => xs[i]? = some k ∧ ys[i]? = some v) (fun i h => FreeZ t1 t2 z TI TO i1 i2 a b xs ys i h ∨ HeldZ d t1 t2 z TI TO i1 i2 a b xs ys i h) where
  off := fun hm => hd (by
    simp only [List.mem_cons, List.not_mem_nil, or_false] at hm ⊢
    rcases hm with h | h | h | h <;> simp [h])
  frame := fun i h h' st k => by
    have ne : ∀ c, c ∈ [z, TI, TO, i1, i2, a, b] → c ≠ d := fun c hc e => hd (e ▸ hc)
    rcases st with ⟨hz, hTI, ⟨x, y, hTO⟩, h1, h2, p1, p2⟩ | ⟨T, f, oT, hTd, hz, hT, hTI, h1, h2, p1, p2⟩
    · exact .inl ⟨k z _ (ne z (by simp)) hz, k TI _ (ne TI (by simp)) hTI, ⟨x, y, k TO _ (ne TO (by simp)) hTO⟩, itB_at h1 fun o q => k i1 o (ne i1 (by simp)) q, itB_at h2 fun o q => k i2 o (ne i2 (by simp)) q,
        isB_at p1 fun o q => k a o (ne a (by simp)) q, isB_at p2 fun o q => k b o (ne b (by simp)) q⟩
    · exact .inr ⟨T, f, oT, hTd, k z _ (ne z (by simp)) hz, k T _ hTd hT, k TI _ (ne TI (by simp)) hTI, itB_at h1 fun o q => k i1 o (ne i1 (by simp)) q, itB_at h2 fun o q => k i2 o (ne i2 (by simp)) q,
        isB_at p1 fun o q => k a o (ne a (by simp)) q, isB_at p2 fun o q => k b o (ne b (by simp)) q⟩
  item := fun i s Q E hi st hds hQ => by
    have nh : A.in1.handled = none := by simpa using hh
    have l1 : i < xs.size := by omega
    have l2 : i < ys.size := by omega
    rcases st with ⟨hz, hTI, ⟨x, y, hTO⟩, h1, h2, p1, p2⟩ | ⟨T, f, oT, hTd, hz, hT, hTI, h1, h2, p1, p2⟩
    · refine wpAny_pyNext_zipD2_item (sepOf D) (drawsB nh t1 i1 a D.l1i1 xs) (drawsB nh t2 i2 b D.l2i2 ys) hz hTI hTO ⟨h1, p1⟩ ⟨h2, p2⟩ l1 l2 fun y1 y2 h' tk e1 e2 z' TO' d1 d2 hT hsz hk => ?_
      refine hQ _ y1 y2 h' tk ⟨e1, e2⟩ (.inl ⟨_, hT, rfl, _, rfl⟩) (.inr ⟨s.heap.objs.size, false, _, Nat.ne_of_gt hds, ?_, hT, hk _ _ D.TIz D.TITO D.TIi1 D.TIi2 hTI, d1.1, d2.1, d1.2, d2.2⟩) fun c o hc q => ?_
      · exact z'
      · simp only [List.mem_cons, List.not_mem_nil, or_false, not_or] at hc
        exact hk c o hc.1 hc.2.1 hc.2.2.1 hc.2.2.2 q
    · refine nextH_item (sepOf D) (drawsB nh t1 i1 a D.l1i1 xs) (drawsB nh t2 i2 b D.l2i2 ys) hz hT hTI ⟨h1, p1⟩ ⟨h2, p2⟩ l1 l2 fun y1 y2 h' tk e1 e2 z' d1 d2 hT2 hsz hk => ?_
      have hTz : ∃ o, h'.get? T = some o := by
        by_cases q1 : T = z
        · rw [q1]; exact ⟨_, z'⟩
        · by_cases q2 : T = i1
          · rw [q2]; obtain ⟨o, e, _⟩ := itB_obj d1.1; exact ⟨o, e⟩
          · by_cases q3 : T = i2
            · rw [q3]; obtain ⟨o, e, _⟩ := itB_obj d2.1; exact ⟨o, e⟩
            · exact ⟨_, hk T _ q1 q2 q3 hT⟩
      obtain ⟨oT', hT'⟩ := hTz
      refine hQ _ y1 y2 h' tk ⟨e1, e2⟩ (.inl ⟨_, hT2, rfl, _, rfl⟩) (.inr ⟨T, true, oT', hTd, z', hT', hk _ _ D.TIz D.TIi1 D.TIi2 hTI, d1.1, d2.1, d1.2, d2.2⟩) fun c o hc q => ?_
      simp only [List.mem_cons, List.not_mem_nil, or_false, not_or] at hc
      exact hk c o hc.1 hc.2.2.1 hc.2.2.2 q
  done := fun s Q E st hQ => by
    have nh : A.in1.handled = none := by simpa using hh
    have hm : min xs.size ys.size = xs.size ∨ min xs.size ys.size = ys.size := by omega
    rcases st with ⟨hz, hTI, ⟨x, y, hTO⟩, h1, h2, p1, p2⟩ | ⟨T, f, oT, hTd, hz, hT, hTI, h1, h2, p1, p2⟩
    · exact wpAny_pyNext_zipD2_end (sepOf D) (drawsB nh t1 i1 a D.l1i1 xs) (drawsB nh t2 i2 b D.l2i2 ys) hz hTI hTO ⟨h1, p1⟩ ⟨h2, p2⟩ (Nat.min_le_left ..) (Nat.min_le_right ..) hm fun h' tk hk => hQ h' tk fun c o hc q => by
        simp only [List.mem_cons, List.not_mem_nil, or_false, not_or] at hc
        exact hk c o hc.1 hc.2.1 hc.2.2.1 hc.2.2.2 q
    · exact nextH_end (sepOf D) (drawsB nh t1 i1 a D.l1i1 xs) (drawsB nh t2 i2 b D.l2i2 ys) hz hT hTI ⟨h1, p1⟩ ⟨h2, p2⟩ (Nat.min_le_left ..) (Nat.min_le_right ..) hm fun h' tk hk => hQ h' tk fun c o hc q => by
        simp only [List.mem_cons, List.not_mem_nil, or_false, not_or] at hc
        exact hk c o hc.1 hc.2.2.1 hc.2.2.2 q
theorem isB_obj {t : Bool} {h : Heap} {a : Addr} {vs : Array Value} (st : isB t h a vs) : ∃ o, h.get? a = some o := by
  cases t
  · obtain ⟨o, e, _⟩ := (show h.IsList a vs from st)
    exact ⟨o, e⟩
  · obtain ⟨o, e, _⟩ := (show h.IsTuple a vs from st)
    exact ⟨o, e⟩
theorem pairB (D : ZipApart z TI TO i1 i2 a b) : PairArg P w "zip" z [z, TI, TO, i1, i2, a, b] [z, TO, i1, i2] (min xs.size ys.size) (fun i k v => xs[i]? = some k ∧ ys[i]? = some v) (FreeZ t1 t2 z TI TO i1 i2 a b xs ys 0) where
  type := fun s h => ⟨_, h.1, rfl⟩
  notDict := by decide
  keep := fun h h' ⟨hz, hTI, ⟨x, y, hTO⟩, h1, h2, p1, p2⟩ k => ⟨k z _ hz, k TI _ hTI, ⟨x, y, k TO _ hTO⟩, itB_at h1 fun o q => k i1 o q, itB_at h2 fun o q => k i2 o q, isB_at p1 fun o q => k a o q, isB_at p2 fun o q => k b o q⟩
  there := fun h ⟨hz, hTI, ⟨x, y, hTO⟩, h1, h2, p1, p2⟩ c hc => by
    simp only [List.mem_cons, List.not_mem_nil, or_false] at hc
    rcases hc with q | q | q | q | q | q | q
    · rw [q]; exact ⟨_, hz⟩
    · rw [q]; exact ⟨_, hTI⟩
    · rw [q]; exact ⟨_, hTO⟩
    · rw [q]; obtain ⟨o, e, _⟩ := itB_obj h1; exact ⟨o, e⟩
    · rw [q]; obtain ⟨o, e, _⟩ := itB_obj h2; exact ⟨o, e⟩
    · rw [q]; exact isB_obj p1
    · rw [q]; exact isB_obj p2
  sub := fun c hc => by
    simp only [List.mem_cons, List.not_mem_nil, or_false] at hc ⊢
    rcases hc with q | q | q | q <;> simp [q]
  noKeys := fun A s Q E hh ⟨hz, _⟩ hQ => getAttrOr_miss_zip hz rfl rfl rfl zip_no_keys (by decide +kernel) hh hQ
  iter := fun A s d Q E hh h hd hfp hQ => wpAny_pyIter_zip h.1 (hQ z [z, TO, i1, i2] _ s.heap s.toks (srcB (t1 := t1) (t2 := t2) (xs := xs) (ys := ys) D hh hfp) (.inl h) (fun _ _ q => q) fun c hc => .inl hc)
end
end Fx
/-! Fx36: dict(zip(a, b)) as a function. -/
namespace Fx
open PySem PySem.Spec L2
def rDictZip (K : PySem.W.Frag) : List V → Hp → VK → Prop := fun vs H Q => ∃ (a b : Addr) (t1 t2 : Bool) (ks : List Key) (ys : List V), vs = [.ref a, .ref b] ∧ SqB K t1 H a (ks.map kV) ∧ SqB K t2 H b ys ∧ ∀ p, H p = none → Q (.ref p) (upd H p (.dK (mergeK [] (ks.zip ys))))
theorem isB_size {t : Bool} {X : Cx} {pins : List (Addr × Obj)} {σ : St} {H : Hp} {s : Shared} (I : Inv X pins σ H s) {a : Addr} {xs : List V} (h : SqB X.K t H a xs) : xs.length ≤ sizeLine := by
  cases t
  · obtain ⟨its, r, p, hz⟩ := I.list (show SqL X.K H a xs from h)
    exact hz
  · obtain ⟨its, r, p, hz⟩ := I.tuple (show SqT X.K H a xs from h)
    exact hz
theorem kv_zip : ∀ {ks : List Key} {ys : List V} {us : List Value}, Vals ys us → KV (ks.zip ys) (ks.zip us)
  | [], ys, us, _ => by
    rw [List.zip_nil_left, List.zip_nil_left]
    exact .nil
  | k :: ks, _, _, .nil => by
    rw [List.zip_nil_right, List.zip_nil_right]
    exact .nil
  | k :: ks, _, _, .cons r rr => by
    rw [List.zip_cons_cons, List.zip_cons_cons]
    exact .cons ⟨rfl, r⟩ (kv_zip rr)
theorem pe_dictZip {X : Cx} {e e2 : Expr} {ta : TA} {p1 p2 pos pos2 : Pos} (hc : X.calm = true) (hm1 : X.mg "dict" = none) (hm2 : X.mg "zip" = none) (ha : PA X [e, e2] ta) (hg1 : Gl X "dict" := by rfl) (hg2 : Gl X "zip" := by rfl)
    (n1 : starEach [.Call (.Name "zip" p2) [e, e2] [] pos2] X.env = (false, eval (.Call (.Name "zip" p2) [e, e2] [] pos2) X.env) :: starEach [] X.env := by rfl)
    (n2 : (backTo pos (starEach [] X.env)).any (·.1) = false := by rfl)
    (n3 : starEach [e, e2] X.env = (false, eval e X.env) :: starEach [e2] X.env := by rfl) (n4 : (backTo pos2 (starEach [e2] X.env)).any (·.1) = false := by rfl) :
    PE X (.Call (.Name "dict" p1) [.Call (.Name "zip" p2) [e, e2] [] pos2] [] pos) (tCB (rDictZip X.K) ta) := by
  refine ⟨fun pins s σ H Q I h => ?_⟩
  refine PyProof.Rows.Call_ (ld_blt I hg1 hm1 PyProof.Rows.boot_dict (PyProof.Rows.callWith_type1 (PyProof.Rows.spliced_more ?_ n1) n1 n2))
  refine PyProof.Rows.Call_ (ld_blt I hg2 hm2 PyProof.Rows.boot_zip (PyProof.Rows.callWith_type1 (thn (ha.run pos2 pins s σ H _ I h) fun us s1 ⟨vs, H1, I1, r1, q1⟩ => ?_) n3 n4))
  obtain ⟨a, b, t1, t2, ks, ys, ex, hqx, hqy, q⟩ := q1
  subst ex
  cases r1 with
  | cons r rr =>
    cases rr with
    | cons r' rr =>
      cases rr
      cases r
      cases r'
      obtain ⟨its, rv, q1⟩ := sqB_vals I1 hqx
      obtain ⟨its2, rv2, q2⟩ := sqB_vals I1 hqy
      obtain ⟨hkl, hk⟩ := key_vals rv
      have hyl := rv2.length
      have hz1 := isB_size I1 hqx
      rw [List.length_map] at hz1
      refine zip_begins2 (beginsB t1 a its.toArray) (beginsB t2 b its2.toArray) q1 q2 fun h' hz hTI hTO h1 h2 hsz hk2 => PyProof.Rows.spliced_none ?_
      have p1' : isB t1 h' a its.toArray := isB_at q1 fun o e => hk2 a o e
      have p2' : isB t2 h' b its2.toArray := isB_at q2 fun o e => hk2 b o e
      have hmin : min its.toArray.size its2.toArray.size = (ks.zip its2).length := by
        rw [List.size_toArray, List.size_toArray, List.length_zip, hkl]
      refine PySem.call_dict_pairs (knd := mixKind X.prog X.w) (kvs := ks.zip its2) (pairB (t1 := t1) (t2 := t2) (xs := its.toArray) (ys := its2.toArray) (PySem.W.ktu_apart s1.heap.objs.size a b (isB_lt q1) (isB_lt q2))) (I1.ok.hd hc)
        ⟨hz, hTI, ⟨_, _, hTO⟩, itB_new h1, itB_new h2, p1', p2'⟩ ⟨hmin.symm, fun j kk v ⟨e1, e2⟩ => ?_⟩ ?_ fun h'' tk hd' kp => ?_
      · obtain ⟨k, e3, e4⟩ := hk j kk (by simpa using e1)
        refine ⟨k, ?_, e4⟩
        rw [List.getElem?_zip_eq_some]
        exact ⟨e3, by simpa using e2⟩
      · rw [hmin, List.length_zip]
        omega
      · have hm : (h'.objs.size == sysModules) = false := beq_eq_false_iff_ne.mpr (Nat.ne_of_gt (Nat.lt_of_lt_of_le I1.big (by rw [hsz]; exact Nat.le_add_right _ _)))
        have rel : KV (ks.zip ys) (ks.zip its2) := kv_zip rv2
        have hlen : (mergeK [] (ks.zip ys)).length ≤ sizeLine := by
          refine Nat.le_trans (length_mergeK _ []) ?_
          rw [List.length_nil, Nat.zero_add, List.length_zip]
          omega
        have hkeep : ∀ (c : Addr) (o : Obj), s1.heap.get? c = some o → h''.get? c = some o := fun c o e => by
          have hlt := Heap.lt_size e
          refine kp c o (fun hc' => ?_) (hk2 c o e)
          simp only [List.mem_cons, List.not_mem_nil, or_false] at hc'
          rcases hc' with h | h | h | h <;> rw [h] at hlt <;> first | exact absurd hlt (Nat.not_lt.mpr (Nat.le_add_right _ _)) | exact absurd hlt (Nat.lt_irrefl _)
        exact ⟨.ref h'.objs.size, upd H1 h'.objs.size (.dK (mergeK [] (ks.zip ys))), I1.laid (t' := tk) hkeep (by rw [hsz]; exact Nat.le_add_right _ _) (show ObjOk X.prog X.w _ _ _ (.dK (mergeK [] (ks.zip ys))) from ⟨hlen, hm, merged [] (ks.zip its2), KV.merge rel .nil, hd'⟩), rfl,
          q _ (I1.hok.fresh (by rw [hsz]; exact Nat.le_add_right _ _))⟩
def dDictZip : List D → Option (D × Bool)
  | [d, e] => (lstD d).bind fun ds => (lstD e).bind fun es => (keysD ds).bind fun ks => some (.dict (mergeD [] (ks.zip es)), true)
  | _ => none
theorem reps_zip {K : PySem.W.Frag} {G : Hp} : ∀ {ks : List Key} {ys : List V} {es : List D}, Reps K G ys es → RepPs K G (ks.zip ys) (ks.zip es)
  | [], ys, es, _ => by
    rw [List.zip_nil_left, List.zip_nil_left]
    exact .nil
  | k :: ks, _, _, .nil => by
    rw [List.zip_nil_right, List.zip_nil_right]
    exact .nil
  | k :: ks, _, _, .cons r rr => by
    rw [List.zip_cons_cons, List.zip_cons_cons]
    exact .cons r (reps_zip rr)
theorem use_sqB {K : PySem.W.Frag} {G H : Hp} {v : V} {d : D} {ds : List D} (s : Same G H) (u : Use K G H v d) (h : lstD d = some ds) : ∃ (a : Addr) (t : Bool) (xs : List V), v = .ref a ∧ SqB K t H a xs ∧ Reps K G xs ds := by
  unfold lstD at h
  split at h
  · cases h
    obtain ⟨a, xs, rfl, h1, r⟩ := u.list s
    exact ⟨a, false, xs, rfl, h1, r⟩
  · cases h
    obtain ⟨a, xs, rfl, h1, r⟩ := u.tuple s
    exact ⟨a, true, xs, rfl, h1, r⟩
  · cases h
theorem on_dictZip {K : PySem.W.Frag} : OpN K (rDictZip K) dDictZip := fun vs ds z b G H Q s u hg k => by
  unfold dDictZip at hg
  split at hg
  · obtain ⟨es1, h1, hg⟩ := Option.bind_eq_some_iff.mp hg
    obtain ⟨es2, h2, hg⟩ := Option.bind_eq_some_iff.mp hg
    obtain ⟨ks, h3, hg⟩ := Option.bind_eq_some_iff.mp hg
    cases hg
    obtain ⟨v, w, rfl, u1, u2⟩ := u.two
    obtain ⟨a, t1, xs, rfl, g1, r1⟩ := use_sqB s u1 h1
    obtain ⟨b, t2, ys, rfl, g2, r2⟩ := use_sqB s u2 h2
    have e2 := keysD_of h3
    subst e2
    have e3 := keysD_rep r1
    subst e3
    exact ⟨a, b, t1, t2, ks, ys, rfl, g1, g2, fun p hp => k _ _ _ (New.own s hp) (Fresh.new s hp (.dK ((reps_zip r2).merge .nil)))⟩
  · cases hg
theorem fe_dictZip {X : Cx} {e e2 : Expr} {l : Av} {p1 p2 pos pos2 : Pos} (hc : X.calm = true) (hm1 : X.mg "dict" = none) (hm2 : X.mg "zip" = none) (ha : PA X [e, e2] (FA X.K l)) (hg1 : Gl X "dict" := by rfl) (hg2 : Gl X "zip" := by rfl)
    (n1 : starEach [.Call (.Name "zip" p2) [e, e2] [] pos2] X.env = (false, eval (.Call (.Name "zip" p2) [e, e2] [] pos2) X.env) :: starEach [] X.env := by rfl)
    (n2 : (backTo pos (starEach [] X.env)).any (·.1) = false := by rfl)
    (n3 : starEach [e, e2] X.env = (false, eval e X.env) :: starEach [e2] X.env := by rfl) (n4 : (backTo pos2 (starEach [e2] X.env)).any (·.1) = false := by rfl) :
    PE X (.Call (.Name "dict" p1) [.Call (.Name "zip" p2) [e, e2] [] pos2] [] pos) (FE X.K (fN l dDictZip)) :=
  pe_imp (pe_dictZip hc hm1 hm2 ha hg1 hg2 n1 n2 n3 n4) fun σ H Q h => tN_of on_dictZip h
end Fx
/-! Fx37: list(x) of a list, a tuple or a dict. -/
namespace Fx
open PySem PySem.Spec L2
def rListA (K : PySem.W.Frag) : List V → Hp → VK → Prop := fun xs H Q => (∃ p ys, xs = [V.ref p] ∧ (SqL K H p ys ∨ SqT K H p ys) ∧ ∀ l, H l = none → Q (.ref l) (upd H l (.lst ys))) ∨
  (∃ (a : Addr) (kvs : List (Key × V)), xs = [V.ref a] ∧ Rd H a (.dK kvs) ∧ ∀ p, H p = none → Q (.ref p) (upd H p (.lst (kvs.map fun kv => kV kv.1))))
theorem cr_listA {X : Cx} (hc : X.calm = true) : CallR X (.type "list") (rListA X.K) := fun pins s σ H xs us Q I r h =>
  h.elim (fun h => call_list_of pins s σ H xs us Q I r h) (fun h => call_listD hc pins s σ H xs us Q I r h)
def dListA : List D → Option (D × Bool)
  | [.dict es] => some (.list (es.map (·.1)), true)
  | ds => dList ds
theorem on_listA {K : PySem.W.Frag} : OpN K (rListA K) dListA := fun vs ds z b G H Q s u hg k => by
  unfold dListA at hg
  split at hg
  · cases hg
    obtain ⟨v, rfl, u0⟩ := u.one
    obtain ⟨a, kvs, rfl, h, r⟩ := u0.dict s
    exact .inr ⟨a, kvs, rfl, h, fun p hp => k _ _ _ (New.own s hp) (Fresh.new s hp (.lst (repKV_keys r)))⟩
  · exact .inl (on_list vs ds z b G H Q s u hg k)
end Fx
/-! Fx38: list(d.items()). -/
namespace Fx
open PySem PySem.Spec L2
theorem itM_off {b : Addr} : ∀ {H H2 : Hp} {kvs : List (Key × V)} {ys : List V}, ItM H kvs H2 ys → V.ref b ∉ ys → H2 b = H b
  | _, _, _, _, .nil, _ => rfl
  | H, H2, _, _, .cons (p := p) (o := o) (k := k) (v := v) hp ho t, hb => by
    have h1 := itM_off t fun z => hb (List.mem_cons_of_mem _ z)
    rw [h1, upd_ne (fun z => hb (by rw [z]; exact List.mem_cons_self ..))]
theorem vals_mem : ∀ {ys : List V} {as : List Addr} {b : Addr}, Vals ys (as.map Value.ref) → V.ref b ∈ ys → b ∈ as
  | _, [], _, .nil, h => by cases h
  | _, a :: as, b, .cons r t, h => by
    rcases List.mem_cons.mp h with e | h
    · rw [← e] at r
      have r : Value.ref a = Value.ref b := r
      cases r
      exact List.mem_cons_self ..
    · exact List.mem_cons_of_mem _ (vals_mem t h)
def rListIK (K : PySem.W.Frag) : List V → Hp → VK → Prop := fun vs H Q => ∃ (p a : Addr) (kvs : List (Key × V)), vs = [.ref p] ∧ H p = some (DX.itemsO p a) ∧ Rd H a (.dK kvs) ∧
  ∀ H2 ys q, ItM H kvs H2 ys → H2 q = none → Q (.ref q) (upd H2 q (.lst ys))
theorem cr_listIK {X : Cx} (hc : X.calm = true) : CallR X (.type "list") (rListIK X.K) := by
  intro pins s σ H xs us Q I r ⟨p, a, kvs, e, hp, h, q⟩
  subst e
  obtain ⟨u, rfl, rx⟩ := Vals.one r
  cases rx
  have view : s.heap.IsItemsView p a := (show ObjOk X.prog X.w H s.heap p (DX.itemsO p a) from I.hok p _ hp).1
  obtain ⟨z, lo, vs, rel, dd⟩ := dk_rd I.hok h
  obtain ⟨ep, hat⟩ := dd.dictAt
  refine PySem.W.kdx_call (knd := mixKind X.prog X.w) (I.ok.hd hc) view hat (by rw [← rel.length]; exact z) fun h' tk acc c as hk hL hl g hacc => ?_
  have nd : as.Nodup := List.Pairwise.imp (fun h => Nat.ne_of_lt h) g.rise
  have ab : ∀ b ∈ as, s.heap.get? b = none ∧ H b = none := fun b hb => by
    have h1 := Nat.le_of_lt (g.above b hb)
    refine ⟨?_, I.hok.fresh h1⟩
    cases e : s.heap.get? b with
    | none => rfl
    | some o => exact absurd (Heap.lt_size e) (Nat.not_lt.mpr h1)
  have I1 : Inv X pins σ H { s with heap := h', toks := tk } := I.kept hk
  obtain ⟨H2, ys, w1, w2, w3, w4⟩ := items_laid (P := X.prog) (w := X.w) (fs := X.fs) (ex := []) (H0 := H) (h := s.heap) (by rw [sizeLine_eq]; omega) rel hl (by
      exact ⟨fun b u q _ _ _ => hk b u q, fun b u q _ _ _ => ⟨u.slots, hk b u q⟩, fun b u q n _ => n, fun b u q _ => ⟨u, hk b u q⟩, fun _ _ q => q, fun _ _ _ q => q, fun b ps q => ⟨#[], by rw [q]; simp⟩⟩) I1.hok ab nd g.pairs
  have hLn : s.heap.get? s.heap.objs.size = none := by
    cases e : s.heap.get? s.heap.objs.size with
    | none => rfl
    | some o => exact absurd (Heap.lt_size e) (Nat.lt_irrefl _)
  have hLH : H s.heap.objs.size = none := I.hok.fresh (Nat.le_refl _)
  have hny : V.ref s.heap.objs.size ∉ ys := fun hm => by
    have := g.above _ (vals_mem w2 hm)
    exact absurd this (Nat.lt_irrefl _)
  have hL2 : H2 s.heap.objs.size = none := by rw [itM_off w1 hny, hLH]
  have hz : (as.map Value.ref).length ≤ sizeLine := by
    rw [List.length_map, hl, ← rel.length]
    exact z
  have ok2 : HOk X.prog X.w (upd H2 s.heap.objs.size (.lst ys)) h' := by
    refine HOk.laidN w4 (fun _ _ e => e) hL2 ?_
    have hys : ys.length ≤ sizeLine := by
      rw [w2.length]
      exact hz
    refine ⟨hys, as.map Value.ref, c, w2, ?_⟩
    have : acc = (as.map Value.ref).toArray := by rw [← hacc]
    rw [← this]
    exact hL
  exact ⟨.ref s.heap.objs.size, upd H2 s.heap.objs.size (.lst ys), I.un (un_more w3 hLn hL2) ok2, rfl, q H2 ys _ w1 hL2⟩
def dListI : D → Option (D × Bool)
  | .dict es => some (.list (es.map fun p => .tuple [p.1, p.2]), true)
  | _ => none
theorem fe_listI {X : Cx} {o : Expr} {p : Ov} {np apos cpos pos : Pos} (hc : X.calm = true) (hm : X.mg "list" = none) (ho : PE X o (FO X.K p)) (hg : Gl X "list" := by rfl) (hbase : attributeBase o "items" X.env (eval o X.env) = eval o X.env := by rfl) (hline : (apos.endLine == cpos.line) = true := by rfl)
    (he : starEach [.Call (.Attribute o "items" apos) [] [] cpos] X.env = [(false, eval (.Call (.Attribute o "items" apos) [] [] cpos) X.env)] := by rfl) (hpl : (backTo pos (starEach [] X.env)).any (·.1) = false := by rfl) :
    PE X (.Call (.Name "list" np) [.Call (.Attribute o "items" apos) [] [] cpos] [] pos) (FE X.K (f1 p dListI)) :=
  pe_imp (pe_callTy (cr_listIK hc) hg hm PyProof.Rows.boot_list (pa_cons (pe_mG0 (kindD X).ok PySem.F.plainAttrs_dict PySem.F.slot_dict_items PySem.F.type_dict_items mt_itemsK ho hbase hline) pa_nil he) (by decide) (by decide) he hpl) fun σ H Q ⟨G, en, d, b, en', S, e1, k⟩ => by
    obtain ⟨⟨x, en1⟩, p1, e2⟩ := Option.bind_eq_some_iff.mp e1
    obtain ⟨d0, p3, e4⟩ := Option.bind_eq_some_iff.mp e2
    obtain ⟨⟨z', b'⟩, p5, e6⟩ := Option.map_eq_some_iff.mp e4
    cases e6
    unfold dListI at p5
    split at p5
    · cases p5
      refine ⟨G, en, x, en1, S, p1, fun v G1 H1 T1 r1 => ?_⟩
      have U := r1.use T1.sr p3
      obtain ⟨a, kvs, rfl, h, r⟩ := U.dict T1.sr.sub
      refine ⟨(kindD X).use T1.sr.sub U rfl, a, kvs, rfl, rfl, h, fun q hq => ?_⟩
      have N0 := New.own (o := DX.itemsO q a) T1.sr.sub hq
      refine ⟨q, a, kvs, rfl, upd_same, rdS (fun b o e => N0.ext.h b o e (fun z => z)) h, fun H2 ys l im hl => ?_⟩
      obtain ⟨G2, N2, r2⟩ := repKV_items im r N0.sub
      have N3 := New.own (o := .lst ys) N2.sub hl
      have N : New G1 H1 G2 (upd H2 l (.lst ys)) := ⟨(N0.ext.trans N2.ext fun _ h => .inl h).trans N3.ext fun _ h => .inl h, N3.sub⟩
      refine k _ _ _ (T1.trans (N.step T1.sr)) (Fresh.res' T1 ?_)
      obtain ⟨a, o, e, q1, q2, q3, q4, q5⟩ := Fresh.new (K := X.K) N2.sub hl (.lst r2)
      refine ⟨a, o, e, .inl ?_, q2, q3, q4, q5⟩
      cases e
      exact N0.ext.t l (N2.ext.t l hl)
    · cases p5
end Fx
namespace Hd
open PySem PySem.Spec L2 Fx
abbrev recN : Nat := 20
structure Mg (mg : Str → Option Value) : Prop where
  abs : mg "abs" = none
  bool : mg "bool" = none
  dict : mg "dict" = none
  int : mg "int" = none
  isinstance : mg "isinstance" = none
  len : mg "len" = none
  list : mg "list" = none
  min : mg "min" = none
  range : mg "range" = none
  set : mg "set" = none
  sorted : mg "sorted" = none
  sum : mg "sum" = none
  tuple : mg "tuple" = none
  zip : mg "zip" = none
def b_is_number : Sv := sRet (fAnd (fIsi (fSlot 0) "int") (fNot (fIsi (fSlot 0) "bool")))
def F_is_number : List D → Option (D × Bool) := mk0 1 b_is_number
theorem sc_is_number : FnScope ["thing"] ["thing"] (defScope s_is_number) := ⟨rfl, rfl, rfl, by decide +kernel, rfl, by decide +kernel, by decide +kernel⟩
theorem fn_is_number {P : Program} {w : World} {K : PySem.W.Frag} {mg : Str → Option Value} {base : Heap} {f : Addr} {fd : FuncData} (M : Mg mg) (F : FunD K "is_number" "is_number" (defArgs s_is_number) (defBody s_is_number) (defScope s_is_number) [] [] f fd)  : FnOk P w K mg base CX0 1 f fd ["thing"] (sp0 K 1 F_is_number) := by
  have hN := sc_is_number.nd
  refine ok_def0 F sc_is_number fun cdv A outer s H E hr => ?_
  have hc : (cxOf CX0 P w K mg base ["thing"] "is_number" (defScope s_is_number) f cdv A outer s H E).nox.calm = true := rfl
  exact (fs_one (fs_ret (fe_and (fe_isi (fo_name (pv 0)) M.isinstance M.int) (fe_one (fe_not (fe_isi (fo_name (pv 0)) M.isinstance M.bool))))))
theorem ok_is_number {P : Program} {w : World} {K : PySem.W.Frag} {mg : Str → Option Value} {base : Heap} {f : Addr} {fd : FuncData} (M : Mg mg) (F : FunD K "is_number" "is_number" (defArgs s_is_number) (defBody s_is_number) (defScope s_is_number) [] [] f fd)  (hm : mg "is_number" = some (.ref f)) : Ow P w K mg base 1 "is_number" ["thing"] (sp0 K 1 F_is_number) :=
  ⟨f, fd, hm, F.kp, F.bindsN fun _ _ _ _ _ _ us hl => match us, hl with | [_], _ => rfl, fn_is_number M F ⟩
def b_frozen : Sv := sRet (fN (aCons (toO (fLc [1] (itV (toV (fN (aCons (fSlot 0) (aNil)) dSort))) (gN 1) (tB1 (f2 (toO (f2 (fSlot 0) (fSlot 1) dIxA)) (svO (fC (.int 0))) (dNe))) (fTup (lCons (fName 1) (lCons (toV (f2 (fSlot 0) (fSlot 1) dIxA)) (lNil)))))) (aNil)) dTuple)
def F_frozen : List D → Option (D × Bool) := mk0 2 b_frozen
theorem sc_frozen : FnScope ["table", "key"] ["table"] (defScope s_frozen) := ⟨rfl, rfl, rfl, by decide +kernel, rfl, by decide +kernel, by decide +kernel⟩
theorem fn_frozen {P : Program} {w : World} {K : PySem.W.Frag} {mg : Str → Option Value} {base : Heap} {f : Addr} {fd : FuncData} (M : Mg mg) (F : FunD K "frozen" "frozen" (defArgs s_frozen) (defBody s_frozen) (defScope s_frozen) [] [] f fd)  : FnOk P w K mg base CX0 1 f fd ["table"] (sp0 K 1 F_frozen) := by
  have hN := sc_frozen.nd
  refine ok_def0 F sc_frozen fun cdv A outer s H E hr => ?_
  have hc : (cxOf CX0 P w K mg base ["table", "key"] "frozen" (defScope s_frozen) f cdv A outer s H E).nox.calm = true := rfl
  exact (fs_one (fs_ret (fe_callTy on_tuple cr_tupOf M.tuple (fa_cons (fo_e (fe_lc (own := [("key", 1)]) hc hN (fi_val (fv_e (fe_callB on_sort (cr_sortG hc hr.u64) M.sorted (fa_cons (fo_name (pv 0)) fa_nil)))) (blkOf (by kernel_rfl)) (by decide) (fun _ _ _ _ _ => (fg_name hN)) (fun _ _ _ _ _ => (ft_one (ft_cmp o2_ne (op_neD hr.u64) (fo_e (fe_ix o2_ixA (ix_A hr.u1) (fo_name (pv 0)) (fo_name (pv 1)) (fun _ _ => rfl))) (fo_v fv_int) (nomark _)))) (fun _ _ _ _ _ => (fv_tup (fl_cons (fv_name (pv 1)) (fl_cons (fv_e (fe_ix o2_ixA (ix_A hr.u1) (fo_name (pv 0)) (fo_name (pv 1)) (fun _ _ => rfl))) fl_nil)))))) fa_nil))))
theorem ok_frozen {P : Program} {w : World} {K : PySem.W.Frag} {mg : Str → Option Value} {base : Heap} {f : Addr} {fd : FuncData} (M : Mg mg) (F : FunD K "frozen" "frozen" (defArgs s_frozen) (defBody s_frozen) (defScope s_frozen) [] [] f fd)  (hm : mg "frozen" = some (.ref f)) : Ow P w K mg base 1 "frozen" ["table"] (sp0 K 1 F_frozen) :=
  ⟨f, fd, hm, F.kp, F.bindsN fun _ _ _ _ _ _ us hl => match us, hl with | [_], _ => rfl, fn_frozen M F ⟩
def b_undo_row : Sv := sSeq (sSet 2 (ofV (fC (.int 0)))) (sSeq (whileL (tAndF (tB1 (f2 (fSlot 2) (toO (fN (aCons (toO (fN (aCons (toO (f2 (fSlot 0) (svO (fC (.int 0))) dIxA)) (aNil)) dLen)) (aCons (toO (fN (aCons (toO (f2 (fSlot 1) (svO (fC (.int 0))) dIxA)) (aNil)) dLen)) (aNil))) dMin2)) (isI iLt))) (tB1 (f2 (toO (f2 (toO (f2 (fSlot 0) (svO (fC (.int 0))) dIxA)) (fSlot 2) dIxA)) (toO (f2 (toO (f2 (fSlot 1) (svO (fC (.int 0))) dIxA)) (fSlot 2) dIxA)) (dEq)))) (sAugN 2 (fC (.int 1)) zAdd) fuelN) (sSeq (sParN [3, 4] (mCons (fN (aCons (toO (f2 (fSlot 0) (svO (fC (.int 1))) dIxA)) (aNil)) dDict) (mCons (fN (aCons (toO (f2 (fSlot 1) (svO (fC (.int 1))) dIxA)) (aNil)) dDict) (mNil)))) (sSeq (sSet 5 (fLc [6] (itV (toV (fN (aCons (toO (f2 (toO (fN (aCons (fSlot 3) (aNil)) dListA)) (toO (fN (aCons (fSlot 4) (aNil)) dListA)) (dAdd))) (aNil)) dSortSetK))) (gN 6) (tB1 (f2 (toO (fMeth (fSlot 3) isDct (aCons (fSlot 6) (aCons (svO (fC (.int 0))) (aNil))) dGetM)) (toO (fMeth (fSlot 4) isDct (aCons (fSlot 6) (aCons (svO (fC (.int 0))) (aNil))) dGetM)) (dNe))) (fTup (lCons (fName 6) (lCons (toV (fMeth (fSlot 3) isDct (aCons (fSlot 6) (aCons (svO (fC (.int 0))) (aNil))) dGetM)) (lNil)))))) (sRet (ofV (fTup (lCons (toV (f2 (toO (fN (aCons (toO (f2 (fSlot 1) (svO (fC (.int 0))) dIxA)) (aNil)) dLen)) (fSlot 2) (isI iSub))) (lCons (toV (fSl (toO (f2 (fSlot 0) (svO (fC (.int 0))) dIxA)) (pInt (fSlot 2)) (pNone) dSl)) (lCons (toV (fN (aCons (fSlot 5) (aNil)) dTuple)) (lCons (toV (fN (aCons (toO (f2 (fSlot 0) (svO (fC (.int 2))) dIxA)) (aNil)) dLen)) (lCons (toV (f2 (fSlot 0) (svO (fC (.int 3))) dIxA)) (lNil))))))))))))
def F_undo_row : List D → Option (D × Bool) := mk0 7 b_undo_row
theorem sc_undo_row : FnScope ["old", "new", "same", "cells", "later", "rows", "cell"] ["old", "new"] (defScope s_undo_row) := ⟨rfl, rfl, rfl, by decide +kernel, rfl, by decide +kernel, by decide +kernel⟩
theorem fn_undo_row {P : Program} {w : World} {K : PySem.W.Frag} {mg : Str → Option Value} {base : Heap} {f : Addr} {fd : FuncData} (M : Mg mg) (F : FunD K "undo_row" "undo_row" (defArgs s_undo_row) (defBody s_undo_row) (defScope s_undo_row) [] [] f fd)  : FnOk P w K mg base CX0 1 f fd ["old", "new"] (sp0 K 2 F_undo_row) := by
  have hN := sc_undo_row.nd
  refine ok_def0 F sc_undo_row fun cdv A outer s H E hr => ?_
  have hc : (cxOf CX0 P w K mg base ["old", "new", "same", "cells", "later", "rows", "cell"] "undo_row" (defScope s_undo_row) f cdv A outer s H E).nox.calm = true := rfl
  exact (fs_cons (fs_set (i := 2) hN (fe_v fv_int)) (fs_cons (fs_while PassesOwn.never (PW.pt (fw_and (ft_cmp o2_ltI op_lt (fo_name (pv 2)) (fo_e (fe_callB on_min2 (call_min2 hc) M.min (fa_cons (fo_e (fe_callB on_len cr_lenA M.len (fa_cons (fo_e (fe_ix o2_ixA (ix_A hr.u1) (fo_name (pv 0)) (fo_v fv_int) (fun _ _ => rfl))) fa_nil))) (fa_cons (fo_e (fe_callB on_len cr_lenA M.len (fa_cons (fo_e (fe_ix o2_ixA (ix_A hr.u1) (fo_name (pv 1)) (fo_v fv_int) (fun _ _ => rfl))) fa_nil))) fa_nil)))) (nomark _)) (fw_and1 (ft_cmp o2_eq (op_eqD hr.u64) (fo_e (fe_ix o2_ixA (ix_A hr.u1) (fo_e (fe_ix o2_ixA (ix_A hr.u1) (fo_name (pv 0)) (fo_v fv_int) (fun _ _ => rfl))) (fo_name (pv 2)) (fun _ _ => rfl))) (fo_e (fe_ix o2_ixA (ix_A hr.u1) (fo_e (fe_ix o2_ixA (ix_A hr.u1) (fo_name (pv 1)) (fo_v fv_int) (fun _ _ => rfl))) (fo_name (pv 2)) (fun _ _ => rfl))) (nomark _))))) (fs_one (fs_aug (i := 2) hN fv_int ip_add i2_add))) (fs_cons (fs_parT hc (gns_cons (i := 3) hN (gns_cons (i := 4) hN gns_nil)) (fm_cons (fe_callTy on_dict (cr_dictOf hc) M.dict (fa_cons (fo_e (fe_ix o2_ixA (ix_A hr.u1) (fo_name (pv 0)) (fo_v fv_int) (fun _ _ => rfl))) fa_nil)) (fm_cons (fe_callTy on_dict (cr_dictOf hc) M.dict (fa_cons (fo_e (fe_ix o2_ixA (ix_A hr.u1) (fo_name (pv 1)) (fo_v fv_int) (fun _ _ => rfl))) fa_nil)) fm_nil))) (fs_cons (fs_setLc (i := 5) (own := [("cell", 6)]) hc hN (fi_val (fv_e (fe_sortSetK hc hr.u64 M.sorted M.set (fa_cons (fo_e (fe_op o2_add op_addD (fo_e (fe_callTy on_listA (cr_listA hc) M.list (fa_cons (fo_name (pv 3)) fa_nil))) (fo_e (fe_callTy on_listA (cr_listA hc) M.list (fa_cons (fo_name (pv 4)) fa_nil))))) fa_nil)))) (blkOf (by kernel_rfl)) (by decide) (fun _ _ _ _ _ => (fg_name hN)) (fun _ _ _ _ _ => (ft_one (ft_cmp o2_ne (op_neD hr.u64) (fo_e (fe_meth (kindD _) or_dget PySem.F.plainAttrs_dict PySem.F.slot_dict_get PySem.F.type_dict_get (mt_dget hr.u1) (fo_name (pv 3)) (fa_cons (fo_name (pv 6)) (fa_cons (fo_v fv_int) fa_nil)))) (fo_e (fe_meth (kindD _) or_dget PySem.F.plainAttrs_dict PySem.F.slot_dict_get PySem.F.type_dict_get (mt_dget hr.u1) (fo_name (pv 4)) (fa_cons (fo_name (pv 6)) (fa_cons (fo_v fv_int) fa_nil)))) (nomark _)))) (fun _ _ _ _ _ => (fv_tup (fl_cons (fv_name (pv 6)) (fl_cons (fv_e (fe_meth (kindD _) or_dget PySem.F.plainAttrs_dict PySem.F.slot_dict_get PySem.F.type_dict_get (mt_dget hr.u1) (fo_name (pv 3)) (fa_cons (fo_name (pv 6)) (fa_cons (fo_v fv_int) fa_nil)))) fl_nil))))) (fs_one (fs_ret (fe_v (fv_tup (fl_cons (fv_e (fe_op o2_sub op_sub (fo_e (fe_callB on_len cr_lenA M.len (fa_cons (fo_e (fe_ix o2_ixA (ix_A hr.u1) (fo_name (pv 1)) (fo_v fv_int) (fun _ _ => rfl))) fa_nil))) (fo_name (pv 2)))) (fl_cons (fv_e (fe_slice os_sl sl_D (fo_e (fe_ix o2_ixA (ix_A hr.u1) (fo_name (pv 0)) (fo_v fv_int) (fun _ _ => rfl))) (fp_some (fo_name (pv 2))) fp_none)) (fl_cons (fv_e (fe_callTy on_tuple cr_tupOf M.tuple (fa_cons (fo_name (pv 5)) fa_nil))) (fl_cons (fv_e (fe_callB on_len cr_lenA M.len (fa_cons (fo_e (fe_ix o2_ixA (ix_A hr.u1) (fo_name (pv 0)) (fo_v fv_int) (fun _ _ => rfl))) fa_nil))) (fl_cons (fv_e (fe_ix o2_ixA (ix_A hr.u1) (fo_name (pv 0)) (fo_v fv_int) (fun _ _ => rfl))) fl_nil)))))))))))))
theorem ok_undo_row {P : Program} {w : World} {K : PySem.W.Frag} {mg : Str → Option Value} {base : Heap} {f : Addr} {fd : FuncData} (M : Mg mg) (F : FunD K "undo_row" "undo_row" (defArgs s_undo_row) (defBody s_undo_row) (defScope s_undo_row) [] [] f fd)  (hm : mg "undo_row" = some (.ref f)) : Ow P w K mg base 1 "undo_row" ["old", "new"] (sp0 K 2 F_undo_row) :=
  ⟨f, fd, hm, F.kp, F.bindsN fun _ _ _ _ _ _ us hl => match us, hl with | [_, _], _ => rfl, fn_undo_row M F ⟩
def b_undone : Sv := sSeq (sAsg (fName 1) (gT 5 (gsCons (gN 2) (gsCons (gN 3) (gsCons (gN 4) (gsCons (gN 5) (gsCons (gN 6) (gsNil)))))))) (sSeq (sSet 7 (fN (aCons (toO (f2 (fSlot 0) (svO (fC (.int 1))) dIxA)) (aNil)) dDict)) (sSeq (sFor (itV (fName 4)) (gT 2 (gsCons (gN 8) (gsCons (gN 9) (gsNil)))) (sAsg (fName 9) (gSubD 7 (fName 8)))) (sSeq (sSet 10 (fSl (toO (f2 (fSlot 0) (svO (fC (.int 0))) dIxA)) (pNone) (pInt (toO (f2 (toO (fN (aCons (toO (f2 (fSlot 0) (svO (fC (.int 0))) dIxA)) (aNil)) dLen)) (fSlot 2) (isI iSub)))) dSl)) (sRet (ofV (fTup (lCons (toV (f2 (fSlot 10) (fSlot 3) (dAdd))) (lCons (toV (fCallL 1 (aCons (fSlot 7) (aNil)) F_frozen)) (lCons (toV (fSl (toO (f2 (fSlot 0) (svO (fC (.int 2))) dIxA)) (pNone) (pInt (fSlot 5)) dSl)) (lCons (fName 6) (lNil)))))))))))
def F_undone : List D → Option (D × Bool) := mk0 11 b_undone
theorem sc_undone : FnScope ["state", "row", "gone", "frames", "cells", "told", "asked", "table", "cell", "number", "kept"] ["state", "row"] (defScope s_undone) := ⟨rfl, rfl, rfl, by decide +kernel, rfl, by decide +kernel, by decide +kernel⟩
theorem fn_undone {P : Program} {w : World} {K : PySem.W.Frag} {mg : Str → Option Value} {base : Heap} {f : Addr} {fd : FuncData} (M : Mg mg) (F : FunD K "undone" "undone" (defArgs s_undone) (defBody s_undone) (defScope s_undone) [] [] f fd) (c_frozen : Ow P w K mg base 1 "frozen" ["table"] (sp0 K 1 F_frozen)) : FnOk P w K mg base CX0 2 f fd ["state", "row"] (sp0 K 2 F_undone) := by
  have hN := sc_undone.nd
  refine ok_def0 F sc_undone fun cdv A outer s H E hr => ?_
  have hc : (cxOf CX0 P w K mg base ["state", "row", "gone", "frames", "cells", "told", "asked", "table", "cell", "number", "kept"] "undone" (defScope s_undone) f cdv A outer s H E).nox.calm = true := rfl
  exact (fs_cons (fs_asg (fv_name (pv 1)) (fg_tup hc (fgs_cons (fg_name hN) (fgs_cons (fg_name hN) (fgs_cons (fg_name hN) (fgs_cons (fg_name hN) (fgs_cons (fg_name hN) fgs_nil))))))) (fs_cons (fs_set (i := 7) hN (fe_callTy on_dict (cr_dictOf hc) M.dict (fa_cons (fo_e (fe_ix o2_ixA (ix_A hr.u1) (fo_name (pv 0)) (fo_v fv_int) (fun _ _ => rfl))) fa_nil))) (fs_cons (fs_for PassesOwn.never hc (fi_val (fv_name (pv 4))) (fg_tup hc (fgs_cons (fg_name hN) (fgs_cons (fg_name hN) fgs_nil))) (fs_one (fs_asg (fv_name (pv 9)) (fg_sub hr.u1 (pv 7) (fv_name (pv 8)))))) (fs_cons (fs_set (i := 10) hN (fe_slice os_sl sl_D (fo_e (fe_ix o2_ixA (ix_A hr.u1) (fo_name (pv 0)) (fo_v fv_int) (fun _ _ => rfl))) fp_none (fp_some (fo_e (fe_op o2_sub op_sub (fo_e (fe_callB on_len cr_lenA M.len (fa_cons (fo_e (fe_ix o2_ixA (ix_A hr.u1) (fo_name (pv 0)) (fo_v fv_int) (fun _ _ => rfl))) fa_nil))) (fo_name (pv 2))))))) (fs_one (fs_ret (fe_v (fv_tup (fl_cons (fv_e (fe_op o2_add op_addD (fo_name (pv 10)) (fo_name (pv 3)))) (fl_cons (fv_e (fe_callLt c_frozen hr (fa_cons (fo_name (pv 7)) fa_nil) (by first | decide | omega | (simp only [Nat.add_eq]; omega)))) (fl_cons (fv_e (fe_slice os_sl sl_D (fo_e (fe_ix o2_ixA (ix_A hr.u1) (fo_name (pv 0)) (fo_v fv_int) (fun _ _ => rfl))) fp_none (fp_some (fo_name (pv 5))))) (fl_cons (fv_name (pv 6)) fl_nil))))))))))))
theorem ok_undone {P : Program} {w : World} {K : PySem.W.Frag} {mg : Str → Option Value} {base : Heap} {f : Addr} {fd : FuncData} (M : Mg mg) (F : FunD K "undone" "undone" (defArgs s_undone) (defBody s_undone) (defScope s_undone) [] [] f fd) (c_frozen : Ow P w K mg base 1 "frozen" ["table"] (sp0 K 1 F_frozen)) (hm : mg "undone" = some (.ref f)) : Ow P w K mg base 2 "undone" ["state", "row"] (sp0 K 2 F_undone) :=
  ⟨f, fd, hm, F.kp, F.bindsN fun _ _ _ _ _ _ us hl => match us, hl with | [_, _], _ => rfl, fn_undone M F c_frozen⟩
def b_undo_rows : Sv := sRet (fN (aCons (toO (fLc [1, 2] (itZB (lCons (fName 0) (lCons (toV (fSl (fSlot 0) (pInt (svO (fC (.int 1)))) (pNone) dSl)) (lNil)))) (gT 2 (gsCons (gN 1) (gsCons (gN 2) (gsNil)))) (tTrue) (toV (fCall 2 (lCons (fName 1) (lCons (fName 2) (lNil))) F_undo_row)))) (aNil)) dTuple)
def F_undo_rows : List D → Option (D × Bool) := mk0 3 b_undo_rows
theorem sc_undo_rows : FnScope ["run", "one", "other"] ["run"] (defScope s_undo_rows) := ⟨rfl, rfl, rfl, by decide +kernel, rfl, by decide +kernel, by decide +kernel⟩
theorem fn_undo_rows {P : Program} {w : World} {K : PySem.W.Frag} {mg : Str → Option Value} {base : Heap} {f : Addr} {fd : FuncData} (M : Mg mg) (F : FunD K "undo_rows" "undo_rows" (defArgs s_undo_rows) (defBody s_undo_rows) (defScope s_undo_rows) [] [] f fd) (c_undo_row : Ow P w K mg base 1 "undo_row" ["old", "new"] (sp0 K 2 F_undo_row)) : FnOk P w K mg base CX0 2 f fd ["run"] (sp0 K 1 F_undo_rows) := by
  have hN := sc_undo_rows.nd
  refine ok_def0 F sc_undo_rows fun cdv A outer s H E hr => ?_
  have hc : (cxOf CX0 P w K mg base ["run", "one", "other"] "undo_rows" (defScope s_undo_rows) f cdv A outer s H E).nox.calm = true := rfl
  exact (fs_one (fs_ret (fe_callTy on_tuple cr_tupOf M.tuple (fa_cons (fo_e (fe_lc (own := [("one", 1), ("other", 2)]) hc hN (fi_zipB M.zip (fl_cons (fv_name (pv 0)) (fl_cons (fv_e (fe_slice os_sl sl_D (fo_name (pv 0)) (fp_some (fo_v fv_int)) fp_none)) fl_nil))) (blkOf (by kernel_rfl)) (by decide) (fun _ _ _ _ _ => (fg_pair hc (fgs_cons (fg_name hN) (fgs_cons (fg_name hN) fgs_nil)))) (fun _ _ _ _ _ => ft_none) (fun _ _ _ _ _ => (fv_e (fe_callO c_undo_row hr (fl_cons (fv_name (pv 1)) (fl_cons (fv_name (pv 2)) fl_nil)) (by first | decide | omega | (simp only [Nat.add_eq]; omega))))))) fa_nil))))
theorem ok_undo_rows {P : Program} {w : World} {K : PySem.W.Frag} {mg : Str → Option Value} {base : Heap} {f : Addr} {fd : FuncData} (M : Mg mg) (F : FunD K "undo_rows" "undo_rows" (defArgs s_undo_rows) (defBody s_undo_rows) (defScope s_undo_rows) [] [] f fd) (c_undo_row : Ow P w K mg base 1 "undo_row" ["old", "new"] (sp0 K 2 F_undo_row)) (hm : mg "undo_rows" = some (.ref f)) : Ow P w K mg base 2 "undo_rows" ["run"] (sp0 K 1 F_undo_rows) :=
  ⟨f, fd, hm, F.kp, F.bindsN fun _ _ _ _ _ _ us hl => match us, hl with | [_], _ => rfl, fn_undo_rows M F c_undo_row⟩
def b_back_by : Sv := sSeq (sFor (itV (toV (f1 (toO (fSl (fSlot 1) (pInt (toO (f2 (toO (fN (aCons (fSlot 1) (aNil)) dLen)) (fSlot 2) (isI iSub)))) (pNone) dSl)) dRevA))) (gN 3) (sSet 0 (fCall 2 (lCons (fName 0) (lCons (fName 3) (lNil))) F_undone))) (sRetX 0)
def F_back_by : List D → Option (D × Bool) := mk0 4 b_back_by
theorem sc_back_by : FnScope ["state", "rows", "many", "row"] ["state", "rows", "many"] (defScope s_back_by) := ⟨rfl, rfl, rfl, by decide +kernel, rfl, by decide +kernel, by decide +kernel⟩
theorem fn_back_by {P : Program} {w : World} {K : PySem.W.Frag} {mg : Str → Option Value} {base : Heap} {f : Addr} {fd : FuncData} (M : Mg mg) (F : FunD K "back_by" "back_by" (defArgs s_back_by) (defBody s_back_by) (defScope s_back_by) [] [] f fd) (c_undone : Ow P w K mg base 2 "undone" ["state", "row"] (sp0 K 2 F_undone)) : FnOk P w K mg base CX0 3 f fd ["state", "rows", "many"] (sp0 K 3 F_back_by) := by
  have hN := sc_back_by.nd
  refine ok_def0 F sc_back_by fun cdv A outer s H E hr => ?_
  have hc : (cxOf CX0 P w K mg base ["state", "rows", "many", "row"] "back_by" (defScope s_back_by) f cdv A outer s H E).nox.calm = true := rfl
  exact (fs_cons (fs_for PassesOwn.never hc (fi_val (fv_e (fe_revA (fo_e (fe_slice os_sl sl_D (fo_name (pv 1)) (fp_some (fo_e (fe_op o2_sub op_sub (fo_e (fe_callB on_len cr_lenA M.len (fa_cons (fo_name (pv 1)) fa_nil))) (fo_name (pv 2))))) fp_none))))) (fg_name hN) (fs_one (fs_set (i := 0) hN (fe_callO c_undone hr (fl_cons (fv_name (pv 0)) (fl_cons (fv_name (pv 3)) fl_nil)) (by first | decide | omega | (simp only [Nat.add_eq]; omega)))))) (fs_one (fs_retX (pv 0))))
theorem ok_back_by {P : Program} {w : World} {K : PySem.W.Frag} {mg : Str → Option Value} {base : Heap} {f : Addr} {fd : FuncData} (M : Mg mg) (F : FunD K "back_by" "back_by" (defArgs s_back_by) (defBody s_back_by) (defScope s_back_by) [] [] f fd) (c_undone : Ow P w K mg base 2 "undone" ["state", "row"] (sp0 K 2 F_undone)) (hm : mg "back_by" = some (.ref f)) : Ow P w K mg base 3 "back_by" ["state", "rows", "many"] (sp0 K 3 F_back_by) :=
  ⟨f, fd, hm, F.kp, F.bindsN fun _ _ _ _ _ _ us hl => match us, hl with | [_, _, _], _ => rfl, fn_back_by M F c_undone⟩
def b_size_of_state : Sv := sSeq (sSet 1 (fN (aCons (toO (fLc [2] (itV (toV (f2 (fSlot 0) (svO (fC (.int 0))) dIxA))) (gN 2) (tTrue) (toV (f2 (svO (fC (.int 2))) (toO (f2 (svO (fC (.int 2))) (toO (fN (aCons (toO (f2 (fSlot 2) (svO (fC (.int 2))) dIxA)) (aNil)) dLen)) (isI iMul))) (dAdd))))) (aNil)) dSum)) (sRet (f2 (toO (f2 (toO (f2 (fSlot 1) (toO (f2 (svO (fC (.int 2))) (toO (fN (aCons (toO (f2 (fSlot 0) (svO (fC (.int 1))) dIxA)) (aNil)) dLen)) (isI iMul))) (dAdd))) (toO (fN (aCons (toO (f2 (fSlot 0) (svO (fC (.int 2))) dIxA)) (aNil)) dLen)) (dAdd))) (svO (fC (.int 1))) (dAdd)))
def F_size_of_state : List D → Option (D × Bool) := mk0 3 b_size_of_state
theorem sc_size_of_state : FnScope ["state", "frames", "frame"] ["state"] (defScope s_size_of_state) := ⟨rfl, rfl, rfl, by decide +kernel, rfl, by decide +kernel, by decide +kernel⟩
theorem fn_size_of_state {P : Program} {w : World} {K : PySem.W.Frag} {mg : Str → Option Value} {base : Heap} {f : Addr} {fd : FuncData} (M : Mg mg) (F : FunD K "size_of_state" "size_of_state" (defArgs s_size_of_state) (defBody s_size_of_state) (defScope s_size_of_state) [] [] f fd)  : FnOk P w K mg base CX0 1 f fd ["state"] (sp0 K 1 F_size_of_state) := by
  have hN := sc_size_of_state.nd
  refine ok_def0 F sc_size_of_state fun cdv A outer s H E hr => ?_
  have hc : (cxOf CX0 P w K mg base ["state", "frames", "frame"] "size_of_state" (defScope s_size_of_state) f cdv A outer s H E).nox.calm = true := rfl
  exact (fs_cons (fs_set (i := 1) hN (fe_callB on_sum (cr_sum hc) M.sum (fa_cons (fo_e (fe_lc (own := [("frame", 2)]) hc hN (fi_val (fv_e (fe_ix o2_ixA (ix_A hr.u1) (fo_name (pv 0)) (fo_v fv_int) (fun _ _ => rfl)))) (blkOf (by kernel_rfl)) (by decide) (fun _ _ _ _ _ => (fg_name hN)) (fun _ _ _ _ _ => ft_none) (fun _ _ _ _ _ => (fv_e (fe_op o2_add op_addD (fo_v fv_int) (fo_e (fe_op o2_mulI op_mul (fo_v fv_int) (fo_e (fe_callB on_len cr_lenA M.len (fa_cons (fo_e (fe_ix o2_ixA (ix_A hr.u1) (fo_name (pv 2)) (fo_v fv_int) (fun _ _ => rfl))) fa_nil)))))))))) fa_nil))) (fs_one (fs_ret (fe_op o2_add op_addD (fo_e (fe_op o2_add op_addD (fo_e (fe_op o2_add op_addD (fo_name (pv 1)) (fo_e (fe_op o2_mulI op_mul (fo_v fv_int) (fo_e (fe_callB on_len cr_lenA M.len (fa_cons (fo_e (fe_ix o2_ixA (ix_A hr.u1) (fo_name (pv 0)) (fo_v fv_int) (fun _ _ => rfl))) fa_nil))))))) (fo_e (fe_callB on_len cr_lenA M.len (fa_cons (fo_e (fe_ix o2_ixA (ix_A hr.u1) (fo_name (pv 0)) (fo_v fv_int) (fun _ _ => rfl))) fa_nil))))) (fo_v fv_int)))))
theorem ok_size_of_state {P : Program} {w : World} {K : PySem.W.Frag} {mg : Str → Option Value} {base : Heap} {f : Addr} {fd : FuncData} (M : Mg mg) (F : FunD K "size_of_state" "size_of_state" (defArgs s_size_of_state) (defBody s_size_of_state) (defScope s_size_of_state) [] [] f fd)  (hm : mg "size_of_state" = some (.ref f)) : Ow P w K mg base 1 "size_of_state" ["state"] (sp0 K 1 F_size_of_state) :=
  ⟨f, fd, hm, F.kp, F.bindsN fun _ _ _ _ _ _ us hl => match us, hl with | [_], _ => rfl, fn_size_of_state M F ⟩
def b_size_of_row : Sv := sRet (f2 (toO (f2 (svO (fC (.int 3))) (toO (fN (aCons (toO (fLc [1] (itV (toV (f2 (fSlot 0) (svO (fC (.int 1))) dIxA))) (gN 1) (tTrue) (toV (f2 (svO (fC (.int 2))) (toO (f2 (svO (fC (.int 2))) (toO (fN (aCons (toO (f2 (fSlot 1) (svO (fC (.int 2))) dIxA)) (aNil)) dLen)) (isI iMul))) (dAdd))))) (aNil)) dSum)) (dAdd))) (toO (f2 (svO (fC (.int 2))) (toO (fN (aCons (toO (f2 (fSlot 0) (svO (fC (.int 2))) dIxA)) (aNil)) dLen)) (isI iMul))) (dAdd))
def F_size_of_row : List D → Option (D × Bool) := mk0 2 b_size_of_row
theorem sc_size_of_row : FnScope ["row", "frame"] ["row"] (defScope s_size_of_row) := ⟨rfl, rfl, rfl, by decide +kernel, rfl, by decide +kernel, by decide +kernel⟩
theorem fn_size_of_row {P : Program} {w : World} {K : PySem.W.Frag} {mg : Str → Option Value} {base : Heap} {f : Addr} {fd : FuncData} (M : Mg mg) (F : FunD K "size_of_row" "size_of_row" (defArgs s_size_of_row) (defBody s_size_of_row) (defScope s_size_of_row) [] [] f fd)  : FnOk P w K mg base CX0 1 f fd ["row"] (sp0 K 1 F_size_of_row) := by
  have hN := sc_size_of_row.nd
  refine ok_def0 F sc_size_of_row fun cdv A outer s H E hr => ?_
  have hc : (cxOf CX0 P w K mg base ["row", "frame"] "size_of_row" (defScope s_size_of_row) f cdv A outer s H E).nox.calm = true := rfl
  exact (fs_one (fs_ret (fe_op o2_add op_addD (fo_e (fe_op o2_add op_addD (fo_v fv_int) (fo_e (fe_callB on_sum (cr_sum hc) M.sum (fa_cons (fo_e (fe_lc (own := [("frame", 1)]) hc hN (fi_val (fv_e (fe_ix o2_ixA (ix_A hr.u1) (fo_name (pv 0)) (fo_v fv_int) (fun _ _ => rfl)))) (blkOf (by kernel_rfl)) (by decide) (fun _ _ _ _ _ => (fg_name hN)) (fun _ _ _ _ _ => ft_none) (fun _ _ _ _ _ => (fv_e (fe_op o2_add op_addD (fo_v fv_int) (fo_e (fe_op o2_mulI op_mul (fo_v fv_int) (fo_e (fe_callB on_len cr_lenA M.len (fa_cons (fo_e (fe_ix o2_ixA (ix_A hr.u1) (fo_name (pv 1)) (fo_v fv_int) (fun _ _ => rfl))) fa_nil)))))))))) fa_nil))))) (fo_e (fe_op o2_mulI op_mul (fo_v fv_int) (fo_e (fe_callB on_len cr_lenA M.len (fa_cons (fo_e (fe_ix o2_ixA (ix_A hr.u1) (fo_name (pv 0)) (fo_v fv_int) (fun _ _ => rfl))) fa_nil))))))))
theorem ok_size_of_row {P : Program} {w : World} {K : PySem.W.Frag} {mg : Str → Option Value} {base : Heap} {f : Addr} {fd : FuncData} (M : Mg mg) (F : FunD K "size_of_row" "size_of_row" (defArgs s_size_of_row) (defBody s_size_of_row) (defScope s_size_of_row) [] [] f fd)  (hm : mg "size_of_row" = some (.ref f)) : Ow P w K mg base 1 "size_of_row" ["row"] (sp0 K 1 F_size_of_row) :=
  ⟨f, fd, hm, F.kp, F.bindsN fun _ _ _ _ _ _ us hl => match us, hl with | [_], _ => rfl, fn_size_of_row M F ⟩
def b_sizes : Sv := sSeq (sSet 1 (fN (aCons (toO (fLc [2] (itV (fName 0)) (gN 2) (tTrue) (toV (fCall 1 (lCons (fName 2) (lNil)) F_size_of_state)))) (aNil)) dSum)) (sSeq (sSet 3 (fN (aCons (toO (fLc [4] (itV (toV (fCall 1 (lCons (fName 0) (lNil)) F_undo_rows))) (gN 4) (tTrue) (toV (fCall 1 (lCons (fName 4) (lNil)) F_size_of_row)))) (aNil)) dSum)) (sRet (ofV (fTup (lCons (fName 1) (lCons (toV (f2 (toO (fCall 1 (lCons (toV (f2 (fSlot 0) (toO (f1 (svO (fC (.int 1))) dNeg)) dIxA)) (lNil)) F_size_of_state)) (fSlot 3) (dAdd))) (lNil)))))))
def F_sizes : List D → Option (D × Bool) := mk0 5 b_sizes
theorem sc_sizes : FnScope ["run", "whole", "state", "rows", "row"] ["run"] (defScope s_sizes) := ⟨rfl, rfl, rfl, by decide +kernel, rfl, by decide +kernel, by decide +kernel⟩
theorem fn_sizes {P : Program} {w : World} {K : PySem.W.Frag} {mg : Str → Option Value} {base : Heap} {f : Addr} {fd : FuncData} (M : Mg mg) (F : FunD K "sizes" "sizes" (defArgs s_sizes) (defBody s_sizes) (defScope s_sizes) [] [] f fd) (c_size_of_state : Ow P w K mg base 1 "size_of_state" ["state"] (sp0 K 1 F_size_of_state)) (c_undo_rows : Ow P w K mg base 2 "undo_rows" ["run"] (sp0 K 1 F_undo_rows)) (c_size_of_row : Ow P w K mg base 1 "size_of_row" ["row"] (sp0 K 1 F_size_of_row)) : FnOk P w K mg base CX0 3 f fd ["run"] (sp0 K 1 F_sizes) := by
  have hN := sc_sizes.nd
  refine ok_def0 F sc_sizes fun cdv A outer s H E hr => ?_
  have hc : (cxOf CX0 P w K mg base ["run", "whole", "state", "rows", "row"] "sizes" (defScope s_sizes) f cdv A outer s H E).nox.calm = true := rfl
  exact (fs_cons (fs_set (i := 1) hN (fe_callB on_sum (cr_sum hc) M.sum (fa_cons (fo_e (fe_lc (own := [("state", 2)]) hc hN (fi_val (fv_name (pv 0))) (blkOf (by kernel_rfl)) (by decide) (fun _ _ _ _ _ => (fg_name hN)) (fun _ _ _ _ _ => ft_none) (fun _ _ _ _ _ => (fv_e (fe_callO c_size_of_state hr (fl_cons (fv_name (pv 2)) fl_nil) (by first | decide | omega | (simp only [Nat.add_eq]; omega))))))) fa_nil))) (fs_cons (fs_set (i := 3) hN (fe_callB on_sum (cr_sum hc) M.sum (fa_cons (fo_e (fe_lc (own := [("row", 4)]) hc hN (fi_val (fv_e (fe_callO c_undo_rows hr (fl_cons (fv_name (pv 0)) fl_nil) (by first | decide | omega | (simp only [Nat.add_eq]; omega))))) (blkOf (by kernel_rfl)) (by decide) (fun _ _ _ _ _ => (fg_name hN)) (fun _ _ _ _ _ => ft_none) (fun _ _ _ _ _ => (fv_e (fe_callO c_size_of_row hr (fl_cons (fv_name (pv 4)) fl_nil) (by first | decide | omega | (simp only [Nat.add_eq]; omega))))))) fa_nil))) (fs_one (fs_ret (fe_v (fv_tup (fl_cons (fv_name (pv 1)) (fl_cons (fv_e (fe_op o2_add op_addD (fo_e (fe_callO c_size_of_state hr (fl_cons (fv_e (fe_ix o2_ixA (ix_A hr.u1) (fo_name (pv 0)) (fo_e (fe_un o1_neg un_neg (fo_v fv_int))) (fun _ _ => rfl))) fl_nil) (by first | decide | omega | (simp only [Nat.add_eq]; omega)))) (fo_name (pv 3)))) fl_nil))))))))
theorem ok_sizes {P : Program} {w : World} {K : PySem.W.Frag} {mg : Str → Option Value} {base : Heap} {f : Addr} {fd : FuncData} (M : Mg mg) (F : FunD K "sizes" "sizes" (defArgs s_sizes) (defBody s_sizes) (defScope s_sizes) [] [] f fd) (c_size_of_state : Ow P w K mg base 1 "size_of_state" ["state"] (sp0 K 1 F_size_of_state)) (c_undo_rows : Ow P w K mg base 2 "undo_rows" ["run"] (sp0 K 1 F_undo_rows)) (c_size_of_row : Ow P w K mg base 1 "size_of_row" ["row"] (sp0 K 1 F_size_of_row)) (hm : mg "sizes" = some (.ref f)) : Ow P w K mg base 3 "sizes" ["run"] (sp0 K 1 F_sizes) :=
  ⟨f, fd, hm, F.kp, F.bindsN fun _ _ _ _ _ _ us hl => match us, hl with | [_], _ => rfl, fn_sizes M F c_size_of_state c_undo_rows c_size_of_row⟩
def b_is_row_for : Sv := sRet (f2 (toO (fCall 2 (lCons (fName 1) (lCons (fName 2) (lNil))) F_undone)) (fSlot 0) (dEq))
def F_is_row_for : List D → Option (D × Bool) := mk0 3 b_is_row_for
theorem sc_is_row_for : FnScope ["old", "new", "row"] ["old", "new", "row"] (defScope s_is_row_for) := ⟨rfl, rfl, rfl, by decide +kernel, rfl, by decide +kernel, by decide +kernel⟩
theorem fn_is_row_for {P : Program} {w : World} {K : PySem.W.Frag} {mg : Str → Option Value} {base : Heap} {f : Addr} {fd : FuncData} (M : Mg mg) (F : FunD K "is_row_for" "is_row_for" (defArgs s_is_row_for) (defBody s_is_row_for) (defScope s_is_row_for) [] [] f fd) (c_undone : Ow P w K mg base 2 "undone" ["state", "row"] (sp0 K 2 F_undone)) : FnOk P w K mg base CX0 3 f fd ["old", "new", "row"] (sp0 K 3 F_is_row_for) := by
  have hN := sc_is_row_for.nd
  refine ok_def0 F sc_is_row_for fun cdv A outer s H E hr => ?_
  have hc : (cxOf CX0 P w K mg base ["old", "new", "row"] "is_row_for" (defScope s_is_row_for) f cdv A outer s H E).nox.calm = true := rfl
  exact (fs_one (fs_ret (fe_cmp o2_eq (op_eqD hr.u64) (fo_e (fe_callO c_undone hr (fl_cons (fv_name (pv 1)) (fl_cons (fv_name (pv 2)) fl_nil)) (by first | decide | omega | (simp only [Nat.add_eq]; omega)))) (fo_name (pv 0)) (nomark _))))
theorem ok_is_row_for {P : Program} {w : World} {K : PySem.W.Frag} {mg : Str → Option Value} {base : Heap} {f : Addr} {fd : FuncData} (M : Mg mg) (F : FunD K "is_row_for" "is_row_for" (defArgs s_is_row_for) (defBody s_is_row_for) (defScope s_is_row_for) [] [] f fd) (c_undone : Ow P w K mg base 2 "undone" ["state", "row"] (sp0 K 2 F_undone)) (hm : mg "is_row_for" = some (.ref f)) : Ow P w K mg base 3 "is_row_for" ["old", "new", "row"] (sp0 K 3 F_is_row_for) :=
  ⟨f, fd, hm, F.kp, F.bindsN fun _ _ _ _ _ _ us hl => match us, hl with | [_, _, _], _ => rfl, fn_is_row_for M F c_undone⟩
def b_untouched : Sv := sSeq (sSet 1 (fCall 1 (lCons (fName 0) (lNil)) F_undo_rows)) (sRet (fN (aCons (toO (fLc [2] (itR (aCons (toO (fN (aCons (fSlot 1) (aNil)) dLen)) (aNil)) range1D) (gN 2) (tB1 (f2 (toO (f2 (toO (f2 (fSlot 1) (fSlot 2) dIxA)) (svO (fC (.int 2))) dIxA)) (svO (fTup (lNil))) (dEq))) (toV (f2 (fSlot 2) (svO (fC (.int 1))) (dAdd))))) (aNil)) dTuple))
def F_untouched : List D → Option (D × Bool) := mk0 3 b_untouched
theorem sc_untouched : FnScope ["run", "rows", "k"] ["run"] (defScope s_untouched) := ⟨rfl, rfl, rfl, by decide +kernel, rfl, by decide +kernel, by decide +kernel⟩
theorem fn_untouched {P : Program} {w : World} {K : PySem.W.Frag} {mg : Str → Option Value} {base : Heap} {f : Addr} {fd : FuncData} (M : Mg mg) (F : FunD K "untouched" "untouched" (defArgs s_untouched) (defBody s_untouched) (defScope s_untouched) [] [] f fd) (c_undo_rows : Ow P w K mg base 2 "undo_rows" ["run"] (sp0 K 1 F_undo_rows)) : FnOk P w K mg base CX0 3 f fd ["run"] (sp0 K 1 F_untouched) := by
  have hN := sc_untouched.nd
  refine ok_def0 F sc_untouched fun cdv A outer s H E hr => ?_
  have hc : (cxOf CX0 P w K mg base ["run", "rows", "k"] "untouched" (defScope s_untouched) f cdv A outer s H E).nox.calm = true := rfl
  exact (fs_cons (fs_set (i := 1) hN (fe_callO c_undo_rows hr (fl_cons (fv_name (pv 0)) fl_nil) (by first | decide | omega | (simp only [Nat.add_eq]; omega)))) (fs_one (fs_ret (fe_callTy on_tuple cr_tupOf M.tuple (fa_cons (fo_e (fe_lc (own := [("k", 2)]) hc hN (fi_range1 M.range (fa_cons (fo_e (fe_callB on_len cr_lenA M.len (fa_cons (fo_name (pv 1)) fa_nil))) fa_nil)) (blkOf (by kernel_rfl)) (by decide) (fun _ _ _ _ _ => (fg_name hN)) (fun _ _ _ _ _ => (ft_one (ft_cmp o2_eq (op_eqD hr.u64) (fo_e (fe_ix o2_ixA (ix_A hr.u1) (fo_e (fe_ix o2_ixA (ix_A hr.u1) (fo_name (pv 1)) (fo_name (pv 2)) (fun _ _ => rfl))) (fo_v fv_int) (fun _ _ => rfl))) (fo_v (fv_tup fl_nil)) (nomark _)))) (fun _ _ _ _ _ => (fv_e (fe_op o2_add op_addD (fo_name (pv 2)) (fo_v fv_int)))))) fa_nil)))))
theorem ok_untouched {P : Program} {w : World} {K : PySem.W.Frag} {mg : Str → Option Value} {base : Heap} {f : Addr} {fd : FuncData} (M : Mg mg) (F : FunD K "untouched" "untouched" (defArgs s_untouched) (defBody s_untouched) (defScope s_untouched) [] [] f fd) (c_undo_rows : Ow P w K mg base 2 "undo_rows" ["run"] (sp0 K 1 F_undo_rows)) (hm : mg "untouched" = some (.ref f)) : Ow P w K mg base 3 "untouched" ["run"] (sp0 K 1 F_untouched) :=
  ⟨f, fd, hm, F.kp, F.bindsN fun _ _ _ _ _ _ us hl => match us, hl with | [_], _ => rfl, fn_untouched M F c_undo_rows⟩
def b_worth (Fr : List D → Option (D × Bool)) : Sv := sSeq (sIf (tB1 (fCall 1 (lCons (fName 0) (lNil)) F_is_number)) (sRetX 0) (sNx)) (sSeq (sSet 3 (f2 (fSlot 0) (svO (fC (.int 0))) dIxA)) (sSeq (sIf (tB1 (f2 (fSlot 3) (svO (fC (.str "var"))) (dEq))) (sRet (fMeth (fSlot 1) isDct (aCons (toO (f2 (fSlot 0) (svO (fC (.int 1))) dIxA)) (aCons (svO (fC (.int 0))) (aNil))) dGetM)) (sNx)) (sSeq (sIf (tB1 (f2 (fSlot 3) (svO (fC (.str "cell"))) (dEq))) (sRet (fMeth (fSlot 2) isDct (aCons (toO (fCall 3 (lCons (toV (f2 (fSlot 0) (svO (fC (.int 1))) dIxA)) (lCons (fName 1) (lCons (fName 2) (lNil)))) Fr)) (aCons (svO (fC (.int 0))) (aNil))) dGetM)) (sNx)) (sSeq (sIf (tB1 (f2 (fSlot 3) (svO (fC (.str "not"))) (dEq))) (sRet (fN (aCons (toO (f2 (toO (fCall 3 (lCons (toV (f2 (fSlot 0) (svO (fC (.int 1))) dIxA)) (lCons (fName 1) (lCons (fName 2) (lNil)))) Fr)) (svO (fC (.int 0))) (dEq))) (aNil)) dInt)) (sNx)) (sSeq (sParN [4, 5] (mCons (fCall 3 (lCons (toV (f2 (fSlot 0) (svO (fC (.int 1))) dIxA)) (lCons (fName 1) (lCons (fName 2) (lNil)))) Fr) (mCons (fCall 3 (lCons (toV (f2 (fSlot 0) (svO (fC (.int 2))) dIxA)) (lCons (fName 1) (lCons (fName 2) (lNil)))) Fr) (mNil)))) (sSeq (sIf (tB1 (f2 (fSlot 3) (svO (fC (.str "add"))) (dEq))) (sRet (f2 (fSlot 4) (fSlot 5) (dAdd))) (sNx)) (sSeq (sIf (tB1 (f2 (fSlot 3) (svO (fC (.str "sub"))) (dEq))) (sRet (f2 (fSlot 4) (fSlot 5) (isI iSub))) (sNx)) (sSeq (sIf (tB1 (f2 (fSlot 3) (svO (fC (.str "mul"))) (dEq))) (sRet (f2 (fSlot 4) (fSlot 5) (isI iMul))) (sNx)) (sRet (fIf (tB1 (f2 (fSlot 3) (svO (fC (.str "less"))) (dEq))) (fN (aCons (toO (f2 (fSlot 4) (fSlot 5) (isI iLt))) (aNil)) dInt) (fN (aCons (toO (f2 (fSlot 4) (fSlot 5) (dEq))) (aNil)) dInt)))))))))))
def F_worth : Nat → List D → Option (D × Bool)
  | 0 => fun _ => none
  | n + 1 => mk0 6 (b_worth (F_worth n))
theorem sc_worth : FnScope ["expr", "variables", "cells", "word", "one", "other"] ["expr", "variables", "cells"] (defScope s_worth) := ⟨rfl, rfl, rfl, by decide +kernel, rfl, by decide +kernel, by decide +kernel⟩
theorem fr_worth {P : Program} {w : World} {K : PySem.W.Frag} {mg : Str → Option Value} {base : Heap} {f : Addr} {fd : FuncData} (M : Mg mg) (F : FunD K "worth" "worth" (defArgs s_worth) (defBody s_worth) (defScope s_worth) [] [] f fd) (c_is_number : Ow P w K mg base 1 "is_number" ["thing"] (sp0 K 1 F_is_number)) (hm : mg "worth" = some (.ref f)) : ∀ m : Nat, FnOk P w K mg base CX0 (2 + m) f fd ["expr", "variables", "cells"] (sp0 K 3 (F_worth m))
  | 0 => F.ok sc_worth (fun vs H Q E ⟨G, ds, d, b, _, r, hl, z, _⟩ => by cases z) fun cdv A outer s H vs Q E hr ⟨G, ds, d, b, _, r, hl, z, _⟩ => by cases z
  | m + 1 => by
    have c_worth : Ow P w K mg base (2 + m) "worth" ["expr", "variables", "cells"] (sp0 K 3 (F_worth m)) := ⟨f, fd, hm, F.kp, F.bindsN fun _ _ _ _ _ _ us hl => match us, hl with | [_, _, _], _ => rfl, fr_worth M F c_is_number hm m⟩
    have hN := sc_worth.nd
    refine ok_def0 F sc_worth fun cdv A outer s H E hr => ?_
    have hc : (cxOf CX0 P w K mg base ["expr", "variables", "cells", "word", "one", "other"] "worth" (defScope s_worth) f cdv A outer s H E).nox.calm = true := rfl
    exact (fs_cons (fs_if (ft_val (fe_callO c_is_number hr (fl_cons (fv_name (pv 0)) fl_nil) (by first | decide | omega | (simp only [Nat.add_eq]; omega)))) (fs_one (fs_retX (pv 0))) fs_nil) (fs_cons (fs_set (i := 3) hN (fe_ix o2_ixA (ix_A hr.u1) (fo_name (pv 0)) (fo_v fv_int) (fun _ _ => rfl))) (fs_cons (fs_if (ft_cmp o2_eq (op_eqD hr.u64) (fo_name (pv 3)) (fo_v fv_str) (nomark _)) (fs_one (fs_ret (fe_meth (kindD _) or_dget PySem.F.plainAttrs_dict PySem.F.slot_dict_get PySem.F.type_dict_get (mt_dget hr.u1) (fo_name (pv 1)) (fa_cons (fo_e (fe_ix o2_ixA (ix_A hr.u1) (fo_name (pv 0)) (fo_v fv_int) (fun _ _ => rfl))) (fa_cons (fo_v fv_int) fa_nil))))) fs_nil) (fs_cons (fs_if (ft_cmp o2_eq (op_eqD hr.u64) (fo_name (pv 3)) (fo_v fv_str) (nomark _)) (fs_one (fs_ret (fe_meth (kindD _) or_dget PySem.F.plainAttrs_dict PySem.F.slot_dict_get PySem.F.type_dict_get (mt_dget hr.u1) (fo_name (pv 2)) (fa_cons (fo_e (fe_callO c_worth hr (fl_cons (fv_e (fe_ix o2_ixA (ix_A hr.u1) (fo_name (pv 0)) (fo_v fv_int) (fun _ _ => rfl))) (fl_cons (fv_name (pv 1)) (fl_cons (fv_name (pv 2)) fl_nil))) (by first | decide | omega | (simp only [Nat.add_eq]; omega)))) (fa_cons (fo_v fv_int) fa_nil))))) fs_nil) (fs_cons (fs_if (ft_cmp o2_eq (op_eqD hr.u64) (fo_name (pv 3)) (fo_v fv_str) (nomark _)) (fs_one (fs_ret (fe_callTy on_int call_int1 M.int (fa_cons (fo_e (fe_cmp o2_eq (op_eqD hr.u64) (fo_e (fe_callO c_worth hr (fl_cons (fv_e (fe_ix o2_ixA (ix_A hr.u1) (fo_name (pv 0)) (fo_v fv_int) (fun _ _ => rfl))) (fl_cons (fv_name (pv 1)) (fl_cons (fv_name (pv 2)) fl_nil))) (by first | decide | omega | (simp only [Nat.add_eq]; omega)))) (fo_v fv_int) (nomark _))) fa_nil)))) fs_nil) (fs_cons (fs_par2 (i := 4) (j := 5) hc hN (fm_cons (fe_callO c_worth hr (fl_cons (fv_e (fe_ix o2_ixA (ix_A hr.u1) (fo_name (pv 0)) (fo_v fv_int) (fun _ _ => rfl))) (fl_cons (fv_name (pv 1)) (fl_cons (fv_name (pv 2)) fl_nil))) (by first | decide | omega | (simp only [Nat.add_eq]; omega))) (fm_cons (fe_callO c_worth hr (fl_cons (fv_e (fe_ix o2_ixA (ix_A hr.u1) (fo_name (pv 0)) (fo_v fv_int) (fun _ _ => rfl))) (fl_cons (fv_name (pv 1)) (fl_cons (fv_name (pv 2)) fl_nil))) (by first | decide | omega | (simp only [Nat.add_eq]; omega))) fm_nil))) (fs_cons (fs_if (ft_cmp o2_eq (op_eqD hr.u64) (fo_name (pv 3)) (fo_v fv_str) (nomark _)) (fs_one (fs_ret (fe_op o2_add op_addD (fo_name (pv 4)) (fo_name (pv 5))))) fs_nil) (fs_cons (fs_if (ft_cmp o2_eq (op_eqD hr.u64) (fo_name (pv 3)) (fo_v fv_str) (nomark _)) (fs_one (fs_ret (fe_op o2_sub op_sub (fo_name (pv 4)) (fo_name (pv 5))))) fs_nil) (fs_cons (fs_if (ft_cmp o2_eq (op_eqD hr.u64) (fo_name (pv 3)) (fo_v fv_str) (nomark _)) (fs_one (fs_ret (fe_op o2_mulI op_mul (fo_name (pv 4)) (fo_name (pv 5))))) fs_nil) (fs_one (fs_ret (fe_if (ft_cmp o2_eq (op_eqD hr.u64) (fo_name (pv 3)) (fo_v fv_str) (nomark _)) (fe_callTy on_int call_int1 M.int (fa_cons (fo_e (fe_cmp o2_ltI op_lt (fo_name (pv 4)) (fo_name (pv 5)) (nomark _))) fa_nil)) (fe_callTy on_int call_int1 M.int (fa_cons (fo_e (fe_cmp o2_eq (op_eqD hr.u64) (fo_name (pv 4)) (fo_name (pv 5)) (nomark _))) fa_nil))))))))))))))
theorem fn_worth {P : Program} {w : World} {K : PySem.W.Frag} {mg : Str → Option Value} {base : Heap} {f : Addr} {fd : FuncData} (M : Mg mg) (F : FunD K "worth" "worth" (defArgs s_worth) (defBody s_worth) (defScope s_worth) [] [] f fd) (c_is_number : Ow P w K mg base 1 "is_number" ["thing"] (sp0 K 1 F_is_number)) (hm : mg "worth" = some (.ref f)) : FnOk P w K mg base CX0 22 f fd ["expr", "variables", "cells"] (sp0 K 3 (F_worth recN)) := fr_worth M F c_is_number hm recN
theorem ok_worth {P : Program} {w : World} {K : PySem.W.Frag} {mg : Str → Option Value} {base : Heap} {f : Addr} {fd : FuncData} (M : Mg mg) (F : FunD K "worth" "worth" (defArgs s_worth) (defBody s_worth) (defScope s_worth) [] [] f fd) (c_is_number : Ow P w K mg base 1 "is_number" ["thing"] (sp0 K 1 F_is_number)) (hm : mg "worth" = some (.ref f)) : Ow P w K mg base 22 "worth" ["expr", "variables", "cells"] (sp0 K 3 (F_worth recN)) :=
  ⟨f, fd, hm, F.kp, F.bindsN fun _ _ _ _ _ _ us hl => match us, hl with | [_, _, _], _ => rfl, fn_worth M F c_is_number hm⟩
def b_op_at : Sv := sSeq (sSet 3 (f2 (toO (f2 (fSlot 0) (fSlot 1) dIxA)) (svO (fC (.int 1))) dIxA)) (sRet (fIf (tB1 (f2 (fSlot 2) (toO (fN (aCons (fSlot 3) (aNil)) dLen)) (isI iLt))) (f2 (toO (f2 (fSlot 3) (fSlot 2) dIxA)) (svO (fC (.int 1))) dIxA) (ofV (fC .none))))
def F_op_at : List D → Option (D × Bool) := mk0 4 b_op_at
theorem sc_op_at : FnScope ["program", "name", "place", "code"] ["program", "name", "place"] (defScope s_op_at) := ⟨rfl, rfl, rfl, by decide +kernel, rfl, by decide +kernel, by decide +kernel⟩
theorem fn_op_at {P : Program} {w : World} {K : PySem.W.Frag} {mg : Str → Option Value} {base : Heap} {f : Addr} {fd : FuncData} (M : Mg mg) (F : FunD K "op_at" "op_at" (defArgs s_op_at) (defBody s_op_at) (defScope s_op_at) [] [] f fd)  : FnOk P w K mg base CX0 1 f fd ["program", "name", "place"] (sp0 K 3 F_op_at) := by
  have hN := sc_op_at.nd
  refine ok_def0 F sc_op_at fun cdv A outer s H E hr => ?_
  have hc : (cxOf CX0 P w K mg base ["program", "name", "place", "code"] "op_at" (defScope s_op_at) f cdv A outer s H E).nox.calm = true := rfl
  exact (fs_cons (fs_set (i := 3) hN (fe_ix o2_ixA (ix_A hr.u1) (fo_e (fe_ix o2_ixA (ix_A hr.u1) (fo_name (pv 0)) (fo_name (pv 1)) (fun _ _ => rfl))) (fo_v fv_int) (fun _ _ => rfl))) (fs_one (fs_ret (fe_if (ft_cmp o2_ltI op_lt (fo_name (pv 2)) (fo_e (fe_callB on_len cr_lenA M.len (fa_cons (fo_name (pv 3)) fa_nil))) (nomark _)) (fe_ix o2_ixA (ix_A hr.u1) (fo_e (fe_ix o2_ixA (ix_A hr.u1) (fo_name (pv 3)) (fo_name (pv 2)) (fun _ _ => rfl))) (fo_v fv_int) (fun _ _ => rfl)) (fe_v fv_non)))))
theorem ok_op_at {P : Program} {w : World} {K : PySem.W.Frag} {mg : Str → Option Value} {base : Heap} {f : Addr} {fd : FuncData} (M : Mg mg) (F : FunD K "op_at" "op_at" (defArgs s_op_at) (defBody s_op_at) (defScope s_op_at) [] [] f fd)  (hm : mg "op_at" = some (.ref f)) : Ow P w K mg base 1 "op_at" ["program", "name", "place"] (sp0 K 3 F_op_at) :=
  ⟨f, fd, hm, F.kp, F.bindsN fun _ _ _ _ _ _ us hl => match us, hl with | [_, _, _], _ => rfl, fn_op_at M F ⟩
def b_first : Sv := sRet (ofV (fTup (lCons (fTup (lCons (fTup (lCons (fC (.str "main")) (lCons (fC (.int 0)) (lCons (fTup (lNil)) (lCons (fC .none) (lNil)))))) (lNil))) (lCons (fTup (lNil)) (lCons (fTup (lNil)) (lCons (fC (.int 0)) (lNil)))))))
def F_first : List D → Option (D × Bool) := mk0 1 b_first
theorem sc_first : FnScope ["program"] ["program"] (defScope s_first) := ⟨rfl, rfl, rfl, by decide +kernel, rfl, by decide +kernel, by decide +kernel⟩
theorem fn_first {P : Program} {w : World} {K : PySem.W.Frag} {mg : Str → Option Value} {base : Heap} {f : Addr} {fd : FuncData} (M : Mg mg) (F : FunD K "first" "first" (defArgs s_first) (defBody s_first) (defScope s_first) [] [] f fd)  : FnOk P w K mg base CX0 1 f fd ["program"] (sp0 K 1 F_first) := by
  have hN := sc_first.nd
  refine ok_def0 F sc_first fun cdv A outer s H E hr => ?_
  have hc : (cxOf CX0 P w K mg base ["program"] "first" (defScope s_first) f cdv A outer s H E).nox.calm = true := rfl
  exact (fs_one (fs_ret (fe_v (fv_tup (fl_cons (fv_tup (fl_cons (fv_tup (fl_cons fv_str (fl_cons fv_int (fl_cons (fv_tup fl_nil) (fl_cons fv_non fl_nil))))) fl_nil)) (fl_cons (fv_tup fl_nil) (fl_cons (fv_tup fl_nil) (fl_cons fv_int fl_nil))))))))
theorem ok_first {P : Program} {w : World} {K : PySem.W.Frag} {mg : Str → Option Value} {base : Heap} {f : Addr} {fd : FuncData} (M : Mg mg) (F : FunD K "first" "first" (defArgs s_first) (defBody s_first) (defScope s_first) [] [] f fd)  (hm : mg "first" = some (.ref f)) : Ow P w K mg base 1 "first" ["program"] (sp0 K 1 F_first) :=
  ⟨f, fd, hm, F.kp, F.bindsN fun _ _ _ _ _ _ us hl => match us, hl with | [_], _ => rfl, fn_first M F ⟩
def b_is_over : Sv := sRet (f2 (toO (f2 (fSlot 0) (svO (fC (.int 0))) dIxA)) (svO (fTup (lNil))) (dEq))
def F_is_over : List D → Option (D × Bool) := mk0 1 b_is_over
theorem sc_is_over : FnScope ["state"] ["state"] (defScope s_is_over) := ⟨rfl, rfl, rfl, by decide +kernel, rfl, by decide +kernel, by decide +kernel⟩
theorem fn_is_over {P : Program} {w : World} {K : PySem.W.Frag} {mg : Str → Option Value} {base : Heap} {f : Addr} {fd : FuncData} (M : Mg mg) (F : FunD K "is_over" "is_over" (defArgs s_is_over) (defBody s_is_over) (defScope s_is_over) [] [] f fd)  : FnOk P w K mg base CX0 1 f fd ["state"] (sp0 K 1 F_is_over) := by
  have hN := sc_is_over.nd
  refine ok_def0 F sc_is_over fun cdv A outer s H E hr => ?_
  have hc : (cxOf CX0 P w K mg base ["state"] "is_over" (defScope s_is_over) f cdv A outer s H E).nox.calm = true := rfl
  exact (fs_one (fs_ret (fe_cmp o2_eq (op_eqD hr.u64) (fo_e (fe_ix o2_ixA (ix_A hr.u1) (fo_name (pv 0)) (fo_v fv_int) (fun _ _ => rfl))) (fo_v (fv_tup fl_nil)) (nomark _))))
theorem ok_is_over {P : Program} {w : World} {K : PySem.W.Frag} {mg : Str → Option Value} {base : Heap} {f : Addr} {fd : FuncData} (M : Mg mg) (F : FunD K "is_over" "is_over" (defArgs s_is_over) (defBody s_is_over) (defScope s_is_over) [] [] f fd)  (hm : mg "is_over" = some (.ref f)) : Ow P w K mg base 1 "is_over" ["state"] (sp0 K 1 F_is_over) :=
  ⟨f, fd, hm, F.kp, F.bindsN fun _ _ _ _ _ _ us hl => match us, hl with | [_], _ => rfl, fn_is_over M F ⟩
def b_variables_of : Sv := sRet (fN (aCons (toO (f2 (toO (f2 (toO (f2 (fSlot 0) (svO (fC (.int 0))) dIxA)) (toO (f1 (svO (fC (.int 1))) dNeg)) dIxA)) (svO (fC (.int 2))) dIxA)) (aNil)) dDict)
def F_variables_of : List D → Option (D × Bool) := mk0 1 b_variables_of
theorem sc_variables_of : FnScope ["state"] ["state"] (defScope s_variables_of) := ⟨rfl, rfl, rfl, by decide +kernel, rfl, by decide +kernel, by decide +kernel⟩
theorem fn_variables_of {P : Program} {w : World} {K : PySem.W.Frag} {mg : Str → Option Value} {base : Heap} {f : Addr} {fd : FuncData} (M : Mg mg) (F : FunD K "variables_of" "variables_of" (defArgs s_variables_of) (defBody s_variables_of) (defScope s_variables_of) [] [] f fd)  : FnOk P w K mg base CX0 1 f fd ["state"] (sp0 K 1 F_variables_of) := by
  have hN := sc_variables_of.nd
  refine ok_def0 F sc_variables_of fun cdv A outer s H E hr => ?_
  have hc : (cxOf CX0 P w K mg base ["state"] "variables_of" (defScope s_variables_of) f cdv A outer s H E).nox.calm = true := rfl
  exact (fs_one (fs_ret (fe_callTy on_dict (cr_dictOf hc) M.dict (fa_cons (fo_e (fe_ix o2_ixA (ix_A hr.u1) (fo_e (fe_ix o2_ixA (ix_A hr.u1) (fo_e (fe_ix o2_ixA (ix_A hr.u1) (fo_name (pv 0)) (fo_v fv_int) (fun _ _ => rfl))) (fo_e (fe_un o1_neg un_neg (fo_v fv_int))) (fun _ _ => rfl))) (fo_v fv_int) (fun _ _ => rfl))) fa_nil))))
theorem ok_variables_of {P : Program} {w : World} {K : PySem.W.Frag} {mg : Str → Option Value} {base : Heap} {f : Addr} {fd : FuncData} (M : Mg mg) (F : FunD K "variables_of" "variables_of" (defArgs s_variables_of) (defBody s_variables_of) (defScope s_variables_of) [] [] f fd)  (hm : mg "variables_of" = some (.ref f)) : Ow P w K mg base 1 "variables_of" ["state"] (sp0 K 1 F_variables_of) :=
  ⟨f, fd, hm, F.kp, F.bindsN fun _ _ _ _ _ _ us hl => match us, hl with | [_], _ => rfl, fn_variables_of M F ⟩
def b_with_variable : Sv := sSeq (sSet 4 (fN (aCons (toO (f2 (fSlot 0) (svO (fC (.int 2))) dIxA)) (aNil)) dDict)) (sSeq (sAsg (fName 2) (gSubD 4 (fName 1))) (sRet (ofV (fTup (lCons (toV (f2 (fSlot 0) (svO (fC (.int 0))) dIxA)) (lCons (fName 3) (lCons (toV (fCallL 1 (aCons (fSlot 4) (aNil)) F_frozen)) (lCons (toV (f2 (fSlot 0) (svO (fC (.int 3))) dIxA)) (lNil)))))))))
def F_with_variable : List D → Option (D × Bool) := mk0 5 b_with_variable
theorem sc_with_variable : FnScope ["frame", "name", "number", "place", "table"] ["frame", "name", "number", "place"] (defScope s_with_variable) := ⟨rfl, rfl, rfl, by decide +kernel, rfl, by decide +kernel, by decide +kernel⟩
theorem fn_with_variable {P : Program} {w : World} {K : PySem.W.Frag} {mg : Str → Option Value} {base : Heap} {f : Addr} {fd : FuncData} (M : Mg mg) (F : FunD K "with_variable" "with_variable" (defArgs s_with_variable) (defBody s_with_variable) (defScope s_with_variable) [] [] f fd) (c_frozen : Ow P w K mg base 1 "frozen" ["table"] (sp0 K 1 F_frozen)) : FnOk P w K mg base CX0 2 f fd ["frame", "name", "number", "place"] (sp0 K 4 F_with_variable) := by
  have hN := sc_with_variable.nd
  refine ok_def0 F sc_with_variable fun cdv A outer s H E hr => ?_
  have hc : (cxOf CX0 P w K mg base ["frame", "name", "number", "place", "table"] "with_variable" (defScope s_with_variable) f cdv A outer s H E).nox.calm = true := rfl
  exact (fs_cons (fs_set (i := 4) hN (fe_callTy on_dict (cr_dictOf hc) M.dict (fa_cons (fo_e (fe_ix o2_ixA (ix_A hr.u1) (fo_name (pv 0)) (fo_v fv_int) (fun _ _ => rfl))) fa_nil))) (fs_cons (fs_asg (fv_name (pv 2)) (fg_sub hr.u1 (pv 4) (fv_name (pv 1)))) (fs_one (fs_ret (fe_v (fv_tup (fl_cons (fv_e (fe_ix o2_ixA (ix_A hr.u1) (fo_name (pv 0)) (fo_v fv_int) (fun _ _ => rfl))) (fl_cons (fv_name (pv 3)) (fl_cons (fv_e (fe_callLt c_frozen hr (fa_cons (fo_name (pv 4)) fa_nil) (by first | decide | omega | (simp only [Nat.add_eq]; omega)))) (fl_cons (fv_e (fe_ix o2_ixA (ix_A hr.u1) (fo_name (pv 0)) (fo_v fv_int) (fun _ _ => rfl))) fl_nil))))))))))
theorem ok_with_variable {P : Program} {w : World} {K : PySem.W.Frag} {mg : Str → Option Value} {base : Heap} {f : Addr} {fd : FuncData} (M : Mg mg) (F : FunD K "with_variable" "with_variable" (defArgs s_with_variable) (defBody s_with_variable) (defScope s_with_variable) [] [] f fd) (c_frozen : Ow P w K mg base 1 "frozen" ["table"] (sp0 K 1 F_frozen)) (hm : mg "with_variable" = some (.ref f)) : Ow P w K mg base 2 "with_variable" ["frame", "name", "number", "place"] (sp0 K 4 F_with_variable) :=
  ⟨f, fd, hm, F.kp, F.bindsN fun _ _ _ _ _ _ us hl => match us, hl with | [_, _, _, _], _ => rfl, fn_with_variable M F c_frozen⟩
def b_given : Sv := sSeq (sAsg (fName 0) (gT 4 (gsCons (gN 2) (gsCons (gN 3) (gsCons (gN 4) (gsCons (gN 5) (gsNil))))))) (sSeq (sSet 6 (f2 (toO (f2 (fSlot 2) (toO (f1 (svO (fC (.int 1))) dNeg)) dIxA)) (svO (fC (.int 3))) dIxA)) (sSeq (sSet 2 (fSl (fSlot 2) (pNone) (pInt (toO (f1 (svO (fC (.int 1))) dNeg))) dSl)) (sSeq (sIf (tB1 (f2 (fSlot 2) (svO (fTup (lNil))) (dNe))) (sSeq (sSet 7 (f2 (fSlot 2) (toO (f1 (svO (fC (.int 1))) dNeg)) dIxA)) (sSet 2 (f2 (toO (fSl (fSlot 2) (pNone) (pInt (toO (f1 (svO (fC (.int 1))) dNeg))) dSl)) (svO (fTup (lCons (toV (fCall 4 (lCons (fName 7) (lCons (fName 6) (lCons (fName 1) (lCons (toV (f2 (toO (f2 (fSlot 7) (svO (fC (.int 1))) dIxA)) (svO (fC (.int 1))) (dAdd))) (lNil))))) F_with_variable)) (lNil)))) (dAdd)))) (sNx)) (sRet (ofV (fTup (lCons (fName 2) (lCons (fName 3) (lCons (fName 4) (lCons (fName 5) (lNil)))))))))))
def F_given : List D → Option (D × Bool) := mk0 8 b_given
theorem sc_given : FnScope ["state", "number", "frames", "cells", "told", "asked", "wants", "below"] ["state", "number"] (defScope s_given) := ⟨rfl, rfl, rfl, by decide +kernel, rfl, by decide +kernel, by decide +kernel⟩
theorem fn_given {P : Program} {w : World} {K : PySem.W.Frag} {mg : Str → Option Value} {base : Heap} {f : Addr} {fd : FuncData} (M : Mg mg) (F : FunD K "given" "given" (defArgs s_given) (defBody s_given) (defScope s_given) [] [] f fd) (c_with_variable : Ow P w K mg base 2 "with_variable" ["frame", "name", "number", "place"] (sp0 K 4 F_with_variable)) : FnOk P w K mg base CX0 3 f fd ["state", "number"] (sp0 K 2 F_given) := by
  have hN := sc_given.nd
  refine ok_def0 F sc_given fun cdv A outer s H E hr => ?_
  have hc : (cxOf CX0 P w K mg base ["state", "number", "frames", "cells", "told", "asked", "wants", "below"] "given" (defScope s_given) f cdv A outer s H E).nox.calm = true := rfl
  exact (fs_cons (fs_asg (fv_name (pv 0)) (fg_tup hc (fgs_cons (fg_name hN) (fgs_cons (fg_name hN) (fgs_cons (fg_name hN) (fgs_cons (fg_name hN) fgs_nil)))))) (fs_cons (fs_set (i := 6) hN (fe_ix o2_ixA (ix_A hr.u1) (fo_e (fe_ix o2_ixA (ix_A hr.u1) (fo_name (pv 2)) (fo_e (fe_un o1_neg un_neg (fo_v fv_int))) (fun _ _ => rfl))) (fo_v fv_int) (fun _ _ => rfl))) (fs_cons (fs_set (i := 2) hN (fe_slice os_sl sl_D (fo_name (pv 2)) fp_none (fp_some (fo_e (fe_un o1_neg un_neg (fo_v fv_int)))))) (fs_cons (fs_if (ft_cmp o2_ne (op_neD hr.u64) (fo_name (pv 2)) (fo_v (fv_tup fl_nil)) (nomark _)) (fs_cons (fs_set (i := 7) hN (fe_ix o2_ixA (ix_A hr.u1) (fo_name (pv 2)) (fo_e (fe_un o1_neg un_neg (fo_v fv_int))) (fun _ _ => rfl))) (fs_one (fs_set (i := 2) hN (fe_op o2_add op_addD (fo_e (fe_slice os_sl sl_D (fo_name (pv 2)) fp_none (fp_some (fo_e (fe_un o1_neg un_neg (fo_v fv_int)))))) (fo_v (fv_tup (fl_cons (fv_e (fe_callO c_with_variable hr (fl_cons (fv_name (pv 7)) (fl_cons (fv_name (pv 6)) (fl_cons (fv_name (pv 1)) (fl_cons (fv_e (fe_op o2_add op_addD (fo_e (fe_ix o2_ixA (ix_A hr.u1) (fo_name (pv 7)) (fo_v fv_int) (fun _ _ => rfl))) (fo_v fv_int))) fl_nil)))) (by first | decide | omega | (simp only [Nat.add_eq]; omega)))) fl_nil))))))) fs_nil) (fs_one (fs_ret (fe_v (fv_tup (fl_cons (fv_name (pv 2)) (fl_cons (fv_name (pv 3)) (fl_cons (fv_name (pv 4)) (fl_cons (fv_name (pv 5)) fl_nil))))))))))))
theorem ok_given {P : Program} {w : World} {K : PySem.W.Frag} {mg : Str → Option Value} {base : Heap} {f : Addr} {fd : FuncData} (M : Mg mg) (F : FunD K "given" "given" (defArgs s_given) (defBody s_given) (defScope s_given) [] [] f fd) (c_with_variable : Ow P w K mg base 2 "with_variable" ["frame", "name", "number", "place"] (sp0 K 4 F_with_variable)) (hm : mg "given" = some (.ref f)) : Ow P w K mg base 3 "given" ["state", "number"] (sp0 K 2 F_given) :=
  ⟨f, fd, hm, F.kp, F.bindsN fun _ _ _ _ _ _ us hl => match us, hl with | [_, _], _ => rfl, fn_given M F c_with_variable⟩
def b_called : Sv := sSeq (sAsg (fName 1) (gT 4 (gsCons (gN 3) (gsCons (gN 4) (gsCons (gN 5) (gsCons (gN 6) (gsNil))))))) (sSeq (sParN [7, 8] (mCons (fCall 1 (lCons (fName 1) (lNil)) F_variables_of) (mCons (fN (aCons (fSlot 4) (aNil)) dDict) (mNil)))) (sSeq (sSet 9 (fLc [10] (itV (toV (f2 (fSlot 2) (svO (fC (.int 3))) dIxA))) (gN 10) (tTrue) (toV (fCall 3 (lCons (fName 10) (lCons (fName 7) (lCons (fName 8) (lNil)))) (F_worth recN))))) (sSeq (sSet 11 (fCall 1 (lCons (toV (fN (aCons (toO (f2 (toO (f2 (fSlot 0) (toO (f2 (fSlot 2) (svO (fC (.int 2))) dIxA)) dIxA)) (svO (fC (.int 0))) dIxA)) (aCons (fSlot 9) (aNil))) dDictZip)) (lNil)) F_frozen)) (sRet (ofV (fTup (lCons (toV (f2 (fSlot 3) (svO (fTup (lCons (fTup (lCons (toV (f2 (fSlot 2) (svO (fC (.int 2))) dIxA)) (lCons (fC (.int 0)) (lCons (fName 11) (lCons (toV (f2 (fSlot 2) (svO (fC (.int 1))) dIxA)) (lNil)))))) (lNil)))) (dAdd))) (lCons (fName 4) (lCons (fName 5) (lCons (fName 6) (lNil)))))))))))
def F_called : List D → Option (D × Bool) := mk0 12 b_called
theorem sc_called : FnScope ["program", "state", "op", "frames", "cells", "told", "asked", "variables", "table", "numbers", "part", "own"] ["program", "state", "op"] (defScope s_called) := ⟨rfl, rfl, rfl, by decide +kernel, rfl, by decide +kernel, by decide +kernel⟩
theorem fn_called {P : Program} {w : World} {K : PySem.W.Frag} {mg : Str → Option Value} {base : Heap} {f : Addr} {fd : FuncData} (M : Mg mg) (F : FunD K "called" "called" (defArgs s_called) (defBody s_called) (defScope s_called) [] [] f fd) (c_variables_of : Ow P w K mg base 1 "variables_of" ["state"] (sp0 K 1 F_variables_of)) (c_worth : Ow P w K mg base 22 "worth" ["expr", "variables", "cells"] (sp0 K 3 (F_worth recN))) (c_frozen : Ow P w K mg base 1 "frozen" ["table"] (sp0 K 1 F_frozen)) : FnOk P w K mg base CX0 23 f fd ["program", "state", "op"] (sp0 K 3 F_called) := by
  have hN := sc_called.nd
  refine ok_def0 F sc_called fun cdv A outer s H E hr => ?_
  have hc : (cxOf CX0 P w K mg base ["program", "state", "op", "frames", "cells", "told", "asked", "variables", "table", "numbers", "part", "own"] "called" (defScope s_called) f cdv A outer s H E).nox.calm = true := rfl
  exact (fs_cons (fs_asg (fv_name (pv 1)) (fg_tup hc (fgs_cons (fg_name hN) (fgs_cons (fg_name hN) (fgs_cons (fg_name hN) (fgs_cons (fg_name hN) fgs_nil)))))) (fs_cons (fs_parT hc (gns_cons (i := 7) hN (gns_cons (i := 8) hN gns_nil)) (fm_cons (fe_callO c_variables_of hr (fl_cons (fv_name (pv 1)) fl_nil) (by first | decide | omega | (simp only [Nat.add_eq]; omega))) (fm_cons (fe_callTy on_dict (cr_dictOf hc) M.dict (fa_cons (fo_name (pv 4)) fa_nil)) fm_nil))) (fs_cons (fs_setLc (i := 9) (own := [("part", 10)]) hc hN (fi_val (fv_e (fe_ix o2_ixA (ix_A hr.u1) (fo_name (pv 2)) (fo_v fv_int) (fun _ _ => rfl)))) (blkOf (by kernel_rfl)) (by decide) (fun _ _ _ _ _ => (fg_name hN)) (fun _ _ _ _ _ => ft_none) (fun _ _ _ _ _ => (fv_e (fe_callO c_worth hr (fl_cons (fv_name (pv 10)) (fl_cons (fv_name (pv 7)) (fl_cons (fv_name (pv 8)) fl_nil))) (by first | decide | omega | (simp only [Nat.add_eq]; omega)))))) (fs_cons (fs_set (i := 11) hN (fe_callO c_frozen hr (fl_cons (fv_e (fe_dictZip hc M.dict M.zip (fa_cons (fo_e (fe_ix o2_ixA (ix_A hr.u1) (fo_e (fe_ix o2_ixA (ix_A hr.u1) (fo_name (pv 0)) (fo_e (fe_ix o2_ixA (ix_A hr.u1) (fo_name (pv 2)) (fo_v fv_int) (fun _ _ => rfl))) (fun _ _ => rfl))) (fo_v fv_int) (fun _ _ => rfl))) (fa_cons (fo_name (pv 9)) fa_nil)))) fl_nil) (by first | decide | omega | (simp only [Nat.add_eq]; omega)))) (fs_one (fs_ret (fe_v (fv_tup (fl_cons (fv_e (fe_op o2_add op_addD (fo_name (pv 3)) (fo_v (fv_tup (fl_cons (fv_tup (fl_cons (fv_e (fe_ix o2_ixA (ix_A hr.u1) (fo_name (pv 2)) (fo_v fv_int) (fun _ _ => rfl))) (fl_cons fv_int (fl_cons (fv_name (pv 11)) (fl_cons (fv_e (fe_ix o2_ixA (ix_A hr.u1) (fo_name (pv 2)) (fo_v fv_int) (fun _ _ => rfl))) fl_nil))))) fl_nil))))) (fl_cons (fv_name (pv 4)) (fl_cons (fv_name (pv 5)) (fl_cons (fv_name (pv 6)) fl_nil))))))))))))
theorem ok_called {P : Program} {w : World} {K : PySem.W.Frag} {mg : Str → Option Value} {base : Heap} {f : Addr} {fd : FuncData} (M : Mg mg) (F : FunD K "called" "called" (defArgs s_called) (defBody s_called) (defScope s_called) [] [] f fd) (c_variables_of : Ow P w K mg base 1 "variables_of" ["state"] (sp0 K 1 F_variables_of)) (c_worth : Ow P w K mg base 22 "worth" ["expr", "variables", "cells"] (sp0 K 3 (F_worth recN))) (c_frozen : Ow P w K mg base 1 "frozen" ["table"] (sp0 K 1 F_frozen)) (hm : mg "called" = some (.ref f)) : Ow P w K mg base 23 "called" ["program", "state", "op"] (sp0 K 3 F_called) :=
  ⟨f, fd, hm, F.kp, F.bindsN fun _ _ _ _ _ _ us hl => match us, hl with | [_, _, _], _ => rfl, fn_called M F c_variables_of c_worth c_frozen⟩
def b_step : Sv := sSeq (sAsg (fName 2) (gT 4 (gsCons (gN 3) (gsCons (gN 4) (gsCons (gN 5) (gsCons (gN 6) (gsNil))))))) (sSeq (sSet 7 (f2 (fSlot 3) (toO (f1 (svO (fC (.int 1))) dNeg)) dIxA)) (sSeq (sAsg (toV (fSl (fSlot 7) (pNone) (pInt (svO (fC (.int 2)))) dSl)) (gT 2 (gsCons (gN 8) (gsCons (gN 9) (gsNil))))) (sSeq (sSet 10 (fCall 3 (lCons (fName 0) (lCons (fName 8) (lCons (fName 9) (lNil)))) F_op_at)) (sSeq (sParN [11, 12] (mCons (fN (aCons (toO (f2 (fSlot 7) (svO (fC (.int 2))) dIxA)) (aNil)) dDict) (mCons (fN (aCons (fSlot 4) (aNil)) dDict) (mNil)))) (sSeq (sIf (tB1 (fIs (fSlot 10) isND)) (sRet (fCall 2 (lCons (fName 2) (lCons (fC (.int 0)) (lNil))) F_given)) (sNx)) (sSeq (sSet 13 (f2 (fSlot 10) (svO (fC (.int 0))) dIxA)) (sSeq (sIf (tB1 (f2 (fSlot 13) (svO (fC (.str "give"))) (dEq))) (sRet (fCall 2 (lCons (fName 2) (lCons (toV (fCallL 3 (aCons (toO (f2 (fSlot 10) (svO (fC (.int 1))) dIxA)) (aCons (fSlot 11) (aCons (fSlot 12) (aNil)))) (F_worth recN))) (lNil))) F_given)) (sNx)) (sSeq (sIf (tB1 (f2 (fSlot 13) (svO (fC (.str "call"))) (dEq))) (sRet (fCall 3 (lCons (fName 0) (lCons (fName 2) (lCons (fName 10) (lNil)))) F_called)) (sNx)) (sSeq (sSet 14 (f2 (fSlot 9) (svO (fC (.int 1))) (dAdd))) (sSeq (sIf (tOrF (tB1 (f2 (fSlot 13) (svO (fC (.str "go"))) (dEq))) (tAndF (tB1 (f2 (fSlot 13) (svO (fC (.str "if"))) (dEq))) (tB1 (f2 (toO (fCallL 3 (aCons (toO (f2 (fSlot 10) (svO (fC (.int 1))) dIxA)) (aCons (fSlot 11) (aCons (fSlot 12) (aNil)))) (F_worth recN))) (svO (fC (.int 0))) (dNe))))) (sSet 14 (f2 (fSlot 10) (toO (f1 (svO (fC (.int 1))) dNeg)) dIxA)) (sNx)) (sSeq (sIf (tB1 (f2 (fSlot 13) (svO (fC (.str "let"))) (dEq))) (sSet 7 (fCall 4 (lCons (fName 7) (lCons (toV (f2 (fSlot 10) (svO (fC (.int 1))) dIxA)) (lCons (toV (fCallL 3 (aCons (toO (f2 (fSlot 10) (svO (fC (.int 2))) dIxA)) (aCons (fSlot 11) (aCons (fSlot 12) (aNil)))) (F_worth recN))) (lCons (fName 14) (lNil))))) F_with_variable)) (sNx)) (sSeq (sIf (tB1 (f2 (fSlot 13) (svO (fC (.str "ask"))) (dEq))) (sSeq (sSet 7 (fCall 4 (lCons (fName 7) (lCons (toV (f2 (fSlot 10) (svO (fC (.int 1))) dIxA)) (lCons (toV (fIf (tB1 (f2 (fSlot 6) (toO (fN (aCons (fSlot 1) (aNil)) dLen)) (isI iLt))) (f2 (fSlot 1) (fSlot 6) dIxA) (ofV (fC (.int 0))))) (lCons (fName 14) (lNil))))) F_with_variable)) (sAugN 6 (fC (.int 1)) zAdd)) (sNx)) (sSeq (sIf (tB1 (f2 (fSlot 13) (svO (fC (.str "put"))) (dEq))) (sAsg (toV (fCallL 3 (aCons (toO (f2 (fSlot 10) (svO (fC (.int 2))) dIxA)) (aCons (fSlot 11) (aCons (fSlot 12) (aNil)))) (F_worth recN))) (gSubD 12 (toV (fCallL 3 (aCons (toO (f2 (fSlot 10) (svO (fC (.int 1))) dIxA)) (aCons (fSlot 11) (aCons (fSlot 12) (aNil)))) (F_worth recN))))) (sNx)) (sSeq (sIf (tB1 (f2 (fSlot 13) (svO (fC (.str "say"))) (dEq))) (sSet 5 (f2 (fSlot 5) (svO (fTup (lCons (toV (fCallL 3 (aCons (toO (f2 (fSlot 10) (svO (fC (.int 1))) dIxA)) (aCons (fSlot 11) (aCons (fSlot 12) (aNil)))) (F_worth recN))) (lNil)))) (dAdd))) (sNx)) (sSeq (sSet 7 (f2 (svO (fTup (lCons (fName 8) (lCons (fName 14) (lNil))))) (toO (fSl (fSlot 7) (pInt (svO (fC (.int 2)))) (pNone) dSl)) (dAdd))) (sRet (ofV (fTup (lCons (toV (f2 (toO (fSl (fSlot 3) (pNone) (pInt (toO (f1 (svO (fC (.int 1))) dNeg))) dSl)) (svO (fTup (lCons (fName 7) (lNil)))) (dAdd))) (lCons (toV (fCallL 1 (aCons (fSlot 12) (aNil)) F_frozen)) (lCons (fName 5) (lCons (fName 6) (lNil)))))))))))))))))))))))
def F_step : List D → Option (D × Bool) := mk0 15 b_step
theorem sc_step : FnScope ["program", "inputs", "state", "frames", "cells", "told", "asked", "frame", "name", "place", "op", "variables", "table", "word", "later"] ["program", "inputs", "state"] (defScope s_step) := ⟨rfl, rfl, rfl, by decide +kernel, rfl, by decide +kernel, by decide +kernel⟩
theorem fn_step {P : Program} {w : World} {K : PySem.W.Frag} {mg : Str → Option Value} {base : Heap} {f : Addr} {fd : FuncData} (M : Mg mg) (F : FunD K "step" "step" (defArgs s_step) (defBody s_step) (defScope s_step) [] [] f fd) (c_op_at : Ow P w K mg base 1 "op_at" ["program", "name", "place"] (sp0 K 3 F_op_at)) (c_given : Ow P w K mg base 3 "given" ["state", "number"] (sp0 K 2 F_given)) (c_worth : Ow P w K mg base 22 "worth" ["expr", "variables", "cells"] (sp0 K 3 (F_worth recN))) (c_called : Ow P w K mg base 23 "called" ["program", "state", "op"] (sp0 K 3 F_called)) (c_with_variable : Ow P w K mg base 2 "with_variable" ["frame", "name", "number", "place"] (sp0 K 4 F_with_variable)) (c_frozen : Ow P w K mg base 1 "frozen" ["table"] (sp0 K 1 F_frozen)) : FnOk P w K mg base CX0 24 f fd ["program", "inputs", "state"] (sp0 K 3 F_step) := by
  have hN := sc_step.nd
  refine ok_def0 F sc_step fun cdv A outer s H E hr => ?_
  have hc : (cxOf CX0 P w K mg base ["program", "inputs", "state", "frames", "cells", "told", "asked", "frame", "name", "place", "op", "variables", "table", "word", "later"] "step" (defScope s_step) f cdv A outer s H E).nox.calm = true := rfl
  exact (fs_cons (fs_asg (fv_name (pv 2)) (fg_tup hc (fgs_cons (fg_name hN) (fgs_cons (fg_name hN) (fgs_cons (fg_name hN) (fgs_cons (fg_name hN) fgs_nil)))))) (fs_cons (fs_set (i := 7) hN (fe_ix o2_ixA (ix_A hr.u1) (fo_name (pv 3)) (fo_e (fe_un o1_neg un_neg (fo_v fv_int))) (fun _ _ => rfl))) (fs_cons (fs_asg (fv_e (fe_slice os_sl sl_D (fo_name (pv 7)) fp_none (fp_some (fo_v fv_int)))) (fg_tup hc (fgs_cons (fg_name hN) (fgs_cons (fg_name hN) fgs_nil)))) (fs_cons (fs_set (i := 10) hN (fe_callO c_op_at hr (fl_cons (fv_name (pv 0)) (fl_cons (fv_name (pv 8)) (fl_cons (fv_name (pv 9)) fl_nil))) (by first | decide | omega | (simp only [Nat.add_eq]; omega)))) (fs_cons (fs_par2 (i := 11) (j := 12) hc hN (fm_cons (fe_callTy on_dict (cr_dictOf hc) M.dict (fa_cons (fo_e (fe_ix o2_ixA (ix_A hr.u1) (fo_name (pv 7)) (fo_v fv_int) (fun _ _ => rfl))) fa_nil)) (fm_cons (fe_callTy on_dict (cr_dictOf hc) M.dict (fa_cons (fo_name (pv 4)) fa_nil)) fm_nil))) (fs_cons (fs_if (ft_isN (fo_name (pv 10))) (fs_one (fs_ret (fe_callO c_given hr (fl_cons (fv_name (pv 2)) (fl_cons fv_int fl_nil)) (by first | decide | omega | (simp only [Nat.add_eq]; omega))))) fs_nil) (fs_cons (fs_set (i := 13) hN (fe_ix o2_ixA (ix_A hr.u1) (fo_name (pv 10)) (fo_v fv_int) (fun _ _ => rfl))) (fs_cons (fs_if (ft_cmp o2_eq (op_eqD hr.u64) (fo_name (pv 13)) (fo_v fv_str) (nomark _)) (fs_one (fs_ret (fe_callO c_given hr (fl_cons (fv_name (pv 2)) (fl_cons (fv_e (fe_callLt c_worth hr (fa_cons (fo_e (fe_ix o2_ixA (ix_A hr.u1) (fo_name (pv 10)) (fo_v fv_int) (fun _ _ => rfl))) (fa_cons (fo_name (pv 11)) (fa_cons (fo_name (pv 12)) fa_nil))) (by first | decide | omega | (simp only [Nat.add_eq]; omega)))) fl_nil)) (by first | decide | omega | (simp only [Nat.add_eq]; omega))))) fs_nil) (fs_cons (fs_if (ft_cmp o2_eq (op_eqD hr.u64) (fo_name (pv 13)) (fo_v fv_str) (nomark _)) (fs_one (fs_ret (fe_callO c_called hr (fl_cons (fv_name (pv 0)) (fl_cons (fv_name (pv 2)) (fl_cons (fv_name (pv 10)) fl_nil))) (by first | decide | omega | (simp only [Nat.add_eq]; omega))))) fs_nil) (fs_cons (fs_set (i := 14) hN (fe_op o2_add op_addD (fo_name (pv 9)) (fo_v fv_int))) (fs_cons (fs_if (PW.pt (fw_or (ft_cmp o2_eq (op_eqD hr.u64) (fo_name (pv 13)) (fo_v fv_str) (nomark _)) (fw_or1 (PW.pt (fw_and (ft_cmp o2_eq (op_eqD hr.u64) (fo_name (pv 13)) (fo_v fv_str) (nomark _)) (fw_and1 (ft_cmp o2_ne (op_neD hr.u64) (fo_e (fe_callLt c_worth hr (fa_cons (fo_e (fe_ix o2_ixA (ix_A hr.u1) (fo_name (pv 10)) (fo_v fv_int) (fun _ _ => rfl))) (fa_cons (fo_name (pv 11)) (fa_cons (fo_name (pv 12)) fa_nil))) (by first | decide | omega | (simp only [Nat.add_eq]; omega)))) (fo_v fv_int) (nomark _)))))))) (fs_one (fs_set (i := 14) hN (fe_ix o2_ixA (ix_A hr.u1) (fo_name (pv 10)) (fo_e (fe_un o1_neg un_neg (fo_v fv_int))) (fun _ _ => rfl)))) fs_nil) (fs_cons (fs_if (ft_cmp o2_eq (op_eqD hr.u64) (fo_name (pv 13)) (fo_v fv_str) (nomark _)) (fs_one (fs_set (i := 7) hN (fe_callO c_with_variable hr (fl_cons (fv_name (pv 7)) (fl_cons (fv_e (fe_ix o2_ixA (ix_A hr.u1) (fo_name (pv 10)) (fo_v fv_int) (fun _ _ => rfl))) (fl_cons (fv_e (fe_callLt c_worth hr (fa_cons (fo_e (fe_ix o2_ixA (ix_A hr.u1) (fo_name (pv 10)) (fo_v fv_int) (fun _ _ => rfl))) (fa_cons (fo_name (pv 11)) (fa_cons (fo_name (pv 12)) fa_nil))) (by first | decide | omega | (simp only [Nat.add_eq]; omega)))) (fl_cons (fv_name (pv 14)) fl_nil)))) (by first | decide | omega | (simp only [Nat.add_eq]; omega))))) fs_nil) (fs_cons (fs_if (ft_cmp o2_eq (op_eqD hr.u64) (fo_name (pv 13)) (fo_v fv_str) (nomark _)) (fs_cons (fs_set (i := 7) hN (fe_callO c_with_variable hr (fl_cons (fv_name (pv 7)) (fl_cons (fv_e (fe_ix o2_ixA (ix_A hr.u1) (fo_name (pv 10)) (fo_v fv_int) (fun _ _ => rfl))) (fl_cons (fv_e (fe_if (ft_cmp o2_ltI op_lt (fo_name (pv 6)) (fo_e (fe_callB on_len cr_lenA M.len (fa_cons (fo_name (pv 1)) fa_nil))) (nomark _)) (fe_ix o2_ixA (ix_A hr.u1) (fo_name (pv 1)) (fo_name (pv 6)) (fun _ _ => rfl)) (fe_v fv_int))) (fl_cons (fv_name (pv 14)) fl_nil)))) (by first | decide | omega | (simp only [Nat.add_eq]; omega)))) (fs_one (fs_aug (i := 6) hN fv_int ip_add i2_add))) fs_nil) (fs_cons (fs_if (ft_cmp o2_eq (op_eqD hr.u64) (fo_name (pv 13)) (fo_v fv_str) (nomark _)) (fs_one (fs_asg (fv_e (fe_callLt c_worth hr (fa_cons (fo_e (fe_ix o2_ixA (ix_A hr.u1) (fo_name (pv 10)) (fo_v fv_int) (fun _ _ => rfl))) (fa_cons (fo_name (pv 11)) (fa_cons (fo_name (pv 12)) fa_nil))) (by first | decide | omega | (simp only [Nat.add_eq]; omega)))) (fg_sub hr.u1 (pv 12) (fv_e (fe_callLt c_worth hr (fa_cons (fo_e (fe_ix o2_ixA (ix_A hr.u1) (fo_name (pv 10)) (fo_v fv_int) (fun _ _ => rfl))) (fa_cons (fo_name (pv 11)) (fa_cons (fo_name (pv 12)) fa_nil))) (by first | decide | omega | (simp only [Nat.add_eq]; omega))))))) fs_nil) (fs_cons (fs_if (ft_cmp o2_eq (op_eqD hr.u64) (fo_name (pv 13)) (fo_v fv_str) (nomark _)) (fs_one (fs_set (i := 5) hN (fe_op o2_add op_addD (fo_name (pv 5)) (fo_v (fv_tup (fl_cons (fv_e (fe_callLt c_worth hr (fa_cons (fo_e (fe_ix o2_ixA (ix_A hr.u1) (fo_name (pv 10)) (fo_v fv_int) (fun _ _ => rfl))) (fa_cons (fo_name (pv 11)) (fa_cons (fo_name (pv 12)) fa_nil))) (by first | decide | omega | (simp only [Nat.add_eq]; omega)))) fl_nil)))))) fs_nil) (fs_cons (fs_set (i := 7) hN (fe_op o2_add op_addD (fo_v (fv_tup (fl_cons (fv_name (pv 8)) (fl_cons (fv_name (pv 14)) fl_nil)))) (fo_e (fe_slice os_sl sl_D (fo_name (pv 7)) (fp_some (fo_v fv_int)) fp_none)))) (fs_one (fs_ret (fe_v (fv_tup (fl_cons (fv_e (fe_op o2_add op_addD (fo_e (fe_slice os_sl sl_D (fo_name (pv 3)) fp_none (fp_some (fo_e (fe_un o1_neg un_neg (fo_v fv_int)))))) (fo_v (fv_tup (fl_cons (fv_name (pv 7)) fl_nil))))) (fl_cons (fv_e (fe_callLt c_frozen hr (fa_cons (fo_name (pv 12)) fa_nil) (by first | decide | omega | (simp only [Nat.add_eq]; omega)))) (fl_cons (fv_name (pv 5)) (fl_cons (fv_name (pv 6)) fl_nil))))))))))))))))))))))))
theorem ok_step {P : Program} {w : World} {K : PySem.W.Frag} {mg : Str → Option Value} {base : Heap} {f : Addr} {fd : FuncData} (M : Mg mg) (F : FunD K "step" "step" (defArgs s_step) (defBody s_step) (defScope s_step) [] [] f fd) (c_op_at : Ow P w K mg base 1 "op_at" ["program", "name", "place"] (sp0 K 3 F_op_at)) (c_given : Ow P w K mg base 3 "given" ["state", "number"] (sp0 K 2 F_given)) (c_worth : Ow P w K mg base 22 "worth" ["expr", "variables", "cells"] (sp0 K 3 (F_worth recN))) (c_called : Ow P w K mg base 23 "called" ["program", "state", "op"] (sp0 K 3 F_called)) (c_with_variable : Ow P w K mg base 2 "with_variable" ["frame", "name", "number", "place"] (sp0 K 4 F_with_variable)) (c_frozen : Ow P w K mg base 1 "frozen" ["table"] (sp0 K 1 F_frozen)) (hm : mg "step" = some (.ref f)) : Ow P w K mg base 24 "step" ["program", "inputs", "state"] (sp0 K 3 F_step) :=
  ⟨f, fd, hm, F.kp, F.bindsN fun _ _ _ _ _ _ us hl => match us, hl with | [_, _, _], _ => rfl, fn_step M F c_op_at c_given c_worth c_called c_with_variable c_frozen⟩
def b_run_of : Sv := sSeq (sSet 3 (fLst (lCons (toV (fCall 1 (lCons (fName 0) (lNil)) F_first)) (lNil)))) (sSeq (whileL (tAndF (tB1 (f2 (toO (fN (aCons (fSlot 3) (aNil)) dLen)) (fSlot 2) (isI iLe))) (tNotF (tB1 (fCall 1 (lCons (toV (f2 (fSlot 3) (toO (f1 (svO (fC (.int 1))) dNeg)) dIxA)) (lNil)) F_is_over)))) (sExpr (fMut 3 isLst (lCons (toV (fCall 3 (lCons (fName 0) (lCons (fName 1) (lCons (toV (f2 (fSlot 3) (toO (f1 (svO (fC (.int 1))) dNeg)) dIxA)) (lNil)))) F_step)) (lNil)) mAppend)) fuelN) (sRet (fN (aCons (fSlot 3) (aNil)) dTuple)))
def F_run_of : List D → Option (D × Bool) := mk0 4 b_run_of
theorem sc_run_of : FnScope ["program", "inputs", "most", "found"] ["program", "inputs", "most"] (defScope s_run_of) := ⟨rfl, rfl, rfl, by decide +kernel, rfl, by decide +kernel, by decide +kernel⟩
theorem fn_run_of {P : Program} {w : World} {K : PySem.W.Frag} {mg : Str → Option Value} {base : Heap} {f : Addr} {fd : FuncData} (M : Mg mg) (F : FunD K "run_of" "run_of" (defArgs s_run_of) (defBody s_run_of) (defScope s_run_of) [] [] f fd) (c_first : Ow P w K mg base 1 "first" ["program"] (sp0 K 1 F_first)) (c_is_over : Ow P w K mg base 1 "is_over" ["state"] (sp0 K 1 F_is_over)) (c_step : Ow P w K mg base 24 "step" ["program", "inputs", "state"] (sp0 K 3 F_step)) : FnOk P w K mg base CX0 25 f fd ["program", "inputs", "most"] (sp0 K 3 F_run_of) := by
  have hN := sc_run_of.nd
  refine ok_def0 F sc_run_of fun cdv A outer s H E hr => ?_
  have hc : (cxOf CX0 P w K mg base ["program", "inputs", "most", "found"] "run_of" (defScope s_run_of) f cdv A outer s H E).nox.calm = true := rfl
  exact (fs_cons (fs_set (i := 3) hN (fe_lst (fl_cons (fv_e (fe_callO c_first hr (fl_cons (fv_name (pv 0)) fl_nil) (by first | decide | omega | (simp only [Nat.add_eq]; omega)))) fl_nil))) (fs_cons (fs_while PassesOwn.never (PW.pt (fw_and (ft_cmp o2_leI op_le (fo_e (fe_callB on_len cr_lenA M.len (fa_cons (fo_name (pv 3)) fa_nil))) (fo_name (pv 2)) (nomark _)) (fw_and1 (ft_not (ft_val (fe_callO c_is_over hr (fl_cons (fv_e (fe_ix o2_ixA (ix_A hr.u1) (fo_name (pv 3)) (fo_e (fe_un o1_neg un_neg (fo_v fv_int))) (fun _ _ => rfl))) fl_nil) (by first | decide | omega | (simp only [Nat.add_eq]; omega)))))))) (fs_one (fs_expr (fe_mut (kindL _) om_append PySem.F.plainAttrs_list PySem.F.slot_list_append PySem.type_list_append mt_append (pv 3) (fl_cons (fv_e (fe_callO c_step hr (fl_cons (fv_name (pv 0)) (fl_cons (fv_name (pv 1)) (fl_cons (fv_e (fe_ix o2_ixA (ix_A hr.u1) (fo_name (pv 3)) (fo_e (fe_un o1_neg un_neg (fo_v fv_int))) (fun _ _ => rfl))) fl_nil))) (by first | decide | omega | (simp only [Nat.add_eq]; omega)))) fl_nil))))) (fs_one (fs_ret (fe_callTy on_tuple cr_tupOf M.tuple (fa_cons (fo_name (pv 3)) fa_nil))))))
theorem ok_run_of {P : Program} {w : World} {K : PySem.W.Frag} {mg : Str → Option Value} {base : Heap} {f : Addr} {fd : FuncData} (M : Mg mg) (F : FunD K "run_of" "run_of" (defArgs s_run_of) (defBody s_run_of) (defScope s_run_of) [] [] f fd) (c_first : Ow P w K mg base 1 "first" ["program"] (sp0 K 1 F_first)) (c_is_over : Ow P w K mg base 1 "is_over" ["state"] (sp0 K 1 F_is_over)) (c_step : Ow P w K mg base 24 "step" ["program", "inputs", "state"] (sp0 K 3 F_step)) (hm : mg "run_of" = some (.ref f)) : Ow P w K mg base 25 "run_of" ["program", "inputs", "most"] (sp0 K 3 F_run_of) :=
  ⟨f, fd, hm, F.kp, F.bindsN fun _ _ _ _ _ _ us hl => match us, hl with | [_, _, _], _ => rfl, fn_run_of M F c_first c_is_over c_step⟩
def b__law_draws : Sv := sSeq (sSet 2 (fLst (lNil))) (sSeq (sSet 3 (ofV (fC (.int 7)))) (sSeq (sFor (itR (aCons (toO (fN (aCons (fSlot 0) (aNil)) dLen)) (aNil)) range1D) (gN 4) (sSeq (sSet 5 (fN (aCons (toO (fN (aCons (toO (f2 (fSlot 0) (fSlot 4) dIxA)) (aNil)) dInt)) (aNil)) dAbs)) (sSeq (sSet 3 (f2 (toO (fN (aCons (toO (f2 (toO (f2 (toO (f2 (fSlot 3) (svO (fC (.int 48271))) (isI iMul))) (toO (f2 (fSlot 5) (svO (fC (.int 1000003))) (isI iMod))) (dAdd))) (fSlot 4) (dAdd))) (aNil)) dInt)) (svO (fC (.int 65537))) (isI iMod))) (sSeq (sSet 6 (ofV (fC (.int 0)))) (sSeq (sIf (tB1 (f2 (fSlot 5) (toO (f2 (svO (fC (.int 10))) (svO (fC (.int 18))) (isI iPow))) (isI iGe))) (sSet 6 (ofV (fName 5))) (sSeq (sExpr (fMut 2 isLst (lCons (toV (f2 (toO (fN (aCons (fSlot 5) (aNil)) dInt)) (svO (fC (.int 997))) (isI iMod))) (lNil)) mAppend)) (sExpr (fMut 2 isLst (lCons (toV (f2 (toO (f2 (toO (fN (aCons (toO (f2 (toO (f2 (fSlot 3) (svO (fC (.int 69621))) (isI iMul))) (svO (fC (.int 5))) (dAdd))) (aNil)) dInt)) (svO (fC (.int 65521))) (isI iMod))) (svO (fC (.int 997))) (isI iMod))) (lNil)) mAppend)))) (sFor (itR (aCons (svO (fC (.int 60))) (aNil)) range1D) (gN 7) (sIf (tB1 (f2 (fSlot 6) (svO (fC (.int 0))) (isI iGt))) (sSeq (sExpr (fMut 2 isLst (lCons (toV (f2 (toO (fN (aCons (fSlot 6) (aNil)) dInt)) (svO (fC (.int 997))) (isI iMod))) (lNil)) mAppend)) (sSet 6 (f2 (fSlot 6) (svO (fC (.int 997))) (isI iDiv)))) (sNx)))))))) (sSeq (sFor (itR (aCons (fSlot 1) (aNil)) range1D) (gN 4) (sSeq (sSet 3 (f2 (toO (fN (aCons (toO (f2 (toO (f2 (toO (f2 (fSlot 3) (svO (fC (.int 16807))) (isI iMul))) (fSlot 4) (dAdd))) (svO (fC (.int 1))) (dAdd))) (aNil)) dInt)) (svO (fC (.int 65537))) (isI iMod))) (sExpr (fMut 2 isLst (lCons (toV (f2 (toO (fN (aCons (fSlot 3) (aNil)) dInt)) (svO (fC (.int 997))) (isI iMod))) (lNil)) mAppend)))) (sRet (fSl (fSlot 2) (pNone) (pInt (fSlot 1)) dSl)))))
def F__law_draws : List D → Option (D × Bool) := mk0 8 b__law_draws
theorem sc__law_draws : FnScope ["script", "many", "draws", "mixed", "k", "cell", "rest", "turn"] ["script", "many"] (defScope s__law_draws) := ⟨rfl, rfl, rfl, by decide +kernel, rfl, by decide +kernel, by decide +kernel⟩
theorem fn__law_draws {P : Program} {w : World} {K : PySem.W.Frag} {mg : Str → Option Value} {base : Heap} {f : Addr} {fd : FuncData} (M : Mg mg) (F : FunD K "_law_draws" "_law_draws" (defArgs s__law_draws) (defBody s__law_draws) (defScope s__law_draws) [] [] f fd)  : FnOk P w K mg base CX0 1 f fd ["script", "many"] (sp0 K 2 F__law_draws) := by
  have hN := sc__law_draws.nd
  refine ok_def0 F sc__law_draws fun cdv A outer s H E hr => ?_
  have hc : (cxOf CX0 P w K mg base ["script", "many", "draws", "mixed", "k", "cell", "rest", "turn"] "_law_draws" (defScope s__law_draws) f cdv A outer s H E).nox.calm = true := rfl
  exact (fs_cons (fs_set (i := 2) hN (fe_lst fl_nil)) (fs_cons (fs_set (i := 3) hN (fe_v fv_int)) (fs_cons (fs_for PassesOwn.never hc (fi_range1 M.range (fa_cons (fo_e (fe_callB on_len cr_lenA M.len (fa_cons (fo_name (pv 0)) fa_nil))) fa_nil)) (fg_name hN) (fs_cons (fs_set (i := 5) hN (fe_callB on_abs call_abs M.abs (fa_cons (fo_e (fe_callTy on_int call_int1 M.int (fa_cons (fo_e (fe_ix o2_ixA (ix_A hr.u1) (fo_name (pv 0)) (fo_name (pv 4)) (fun _ _ => rfl))) fa_nil))) fa_nil))) (fs_cons (fs_set (i := 3) hN (fe_op o2_mod op_mod (fo_e (fe_callTy on_int call_int1 M.int (fa_cons (fo_e (fe_op o2_add op_addD (fo_e (fe_op o2_add op_addD (fo_e (fe_op o2_mulI op_mul (fo_name (pv 3)) (fo_v fv_int))) (fo_e (fe_op o2_mod op_mod (fo_name (pv 5)) (fo_v fv_int))))) (fo_name (pv 4)))) fa_nil))) (fo_v fv_int))) (fs_cons (fs_set (i := 6) hN (fe_v fv_int)) (fs_cons (fs_if (ft_cmp o2_geI op_ge (fo_name (pv 5)) (fo_e (fe_op o2_pow op_pow (fo_v fv_int) (fo_v fv_int))) (nomark _)) (fs_one (fs_set (i := 6) hN (fe_v (fv_name (pv 5))))) (fs_cons (fs_expr (fe_mut (kindL _) om_append PySem.F.plainAttrs_list PySem.F.slot_list_append PySem.type_list_append mt_append (pv 2) (fl_cons (fv_e (fe_op o2_mod op_mod (fo_e (fe_callTy on_int call_int1 M.int (fa_cons (fo_name (pv 5)) fa_nil))) (fo_v fv_int))) fl_nil))) (fs_one (fs_expr (fe_mut (kindL _) om_append PySem.F.plainAttrs_list PySem.F.slot_list_append PySem.type_list_append mt_append (pv 2) (fl_cons (fv_e (fe_op o2_mod op_mod (fo_e (fe_op o2_mod op_mod (fo_e (fe_callTy on_int call_int1 M.int (fa_cons (fo_e (fe_op o2_add op_addD (fo_e (fe_op o2_mulI op_mul (fo_name (pv 3)) (fo_v fv_int))) (fo_v fv_int))) fa_nil))) (fo_v fv_int))) (fo_v fv_int))) fl_nil)))))) (fs_one (fs_for PassesOwn.never hc (fi_range1 M.range (fa_cons (fo_v fv_int) fa_nil)) (fg_name hN) (fs_one (fs_if (ft_cmp o2_gtI op_gt (fo_name (pv 6)) (fo_v fv_int) (nomark _)) (fs_cons (fs_expr (fe_mut (kindL _) om_append PySem.F.plainAttrs_list PySem.F.slot_list_append PySem.type_list_append mt_append (pv 2) (fl_cons (fv_e (fe_op o2_mod op_mod (fo_e (fe_callTy on_int call_int1 M.int (fa_cons (fo_name (pv 6)) fa_nil))) (fo_v fv_int))) fl_nil))) (fs_one (fs_set (i := 6) hN (fe_op o2_div op_fdiv (fo_name (pv 6)) (fo_v fv_int))))) fs_nil))))))))) (fs_cons (fs_for PassesOwn.never hc (fi_range1 M.range (fa_cons (fo_name (pv 1)) fa_nil)) (fg_name hN) (fs_cons (fs_set (i := 3) hN (fe_op o2_mod op_mod (fo_e (fe_callTy on_int call_int1 M.int (fa_cons (fo_e (fe_op o2_add op_addD (fo_e (fe_op o2_add op_addD (fo_e (fe_op o2_mulI op_mul (fo_name (pv 3)) (fo_v fv_int))) (fo_name (pv 4)))) (fo_v fv_int))) fa_nil))) (fo_v fv_int))) (fs_one (fs_expr (fe_mut (kindL _) om_append PySem.F.plainAttrs_list PySem.F.slot_list_append PySem.type_list_append mt_append (pv 2) (fl_cons (fv_e (fe_op o2_mod op_mod (fo_e (fe_callTy on_int call_int1 M.int (fa_cons (fo_name (pv 3)) fa_nil))) (fo_v fv_int))) fl_nil)))))) (fs_one (fs_ret (fe_slice os_sl sl_D (fo_name (pv 2)) fp_none (fp_some (fo_name (pv 1))))))))))
theorem ok__law_draws {P : Program} {w : World} {K : PySem.W.Frag} {mg : Str → Option Value} {base : Heap} {f : Addr} {fd : FuncData} (M : Mg mg) (F : FunD K "_law_draws" "_law_draws" (defArgs s__law_draws) (defBody s__law_draws) (defScope s__law_draws) [] [] f fd)  (hm : mg "_law_draws" = some (.ref f)) : Ow P w K mg base 1 "_law_draws" ["script", "many"] (sp0 K 2 F__law_draws) :=
  ⟨f, fd, hm, F.kp, F.bindsN fun _ _ _ _ _ _ us hl => match us, hl with | [_, _], _ => rfl, fn__law_draws M F ⟩
def b__law_next : Sv := sSeq (sAugS 0 (fC (.str "at")) (fC (.int 1)) zAdd) (sSeq (sIf (tB1 (f2 (toO (f2 (fSlot 0) (svO (fC (.str "at"))) dIxA)) (toO (fN (aCons (toO (f2 (fSlot 0) (svO (fC (.str "draws"))) dIxA)) (aNil)) dLen)) (isI iGt))) (sRet (ofV (fC (.int 0)))) (sNx)) (sRet (f2 (toO (fN (aCons (toO (f2 (toO (f2 (fSlot 0) (svO (fC (.str "draws"))) dIxA)) (toO (f2 (toO (f2 (fSlot 0) (svO (fC (.str "at"))) dIxA)) (svO (fC (.int 1))) (isI iSub))) dIxA)) (aNil)) dInt)) (fSlot 1) (isI iMod))))
def F__law_next : D → List D → Option (D × Bool × D) := mkW 2 b__law_next
theorem sc__law_next : FnScope ["w", "many"] ["w", "many"] (defScope s__law_next) := ⟨rfl, rfl, rfl, by decide +kernel, rfl, by decide +kernel, by decide +kernel⟩
theorem fn__law_next {P : Program} {w : World} {K : PySem.W.Frag} {mg : Str → Option Value} {base : Heap} {f : Addr} {fd : FuncData} (M : Mg mg) (F : FunD K "_law_next" "_law_next" (defArgs s__law_next) (defBody s__law_next) (defScope s__law_next) [] [] f fd)  : FnOk P w K mg base CX0 1 f fd ["w", "many"] (spW K 1 F__law_next) := by
  have hN := sc__law_next.nd
  refine ok_defW (np := 1) F sc__law_next rfl (by decide) fun cdv A outer s H E hr => ?_
  have hc : (cxOf CX0 P w K mg base ["w", "many"] "_law_next" (defScope s__law_next) f cdv A outer s H E).nox.calm = true := rfl
  exact (fs_cons (fs_augS hr.u1 (pv 0) fv_str fv_int ip_add i2_add) (fs_cons (fs_if (ft_cmp o2_gtI op_gt (fo_e (fe_ix o2_ixA (ix_A hr.u1) (fo_name (pv 0)) (fo_v fv_str) (fun _ _ => rfl))) (fo_e (fe_callB on_len cr_lenA M.len (fa_cons (fo_e (fe_ix o2_ixA (ix_A hr.u1) (fo_name (pv 0)) (fo_v fv_str) (fun _ _ => rfl))) fa_nil))) (nomark _)) (fs_one (fs_ret (fe_v fv_int))) fs_nil) (fs_one (fs_ret (fe_op o2_mod op_mod (fo_e (fe_callTy on_int call_int1 M.int (fa_cons (fo_e (fe_ix o2_ixA (ix_A hr.u1) (fo_e (fe_ix o2_ixA (ix_A hr.u1) (fo_name (pv 0)) (fo_v fv_str) (fun _ _ => rfl))) (fo_e (fe_op o2_sub op_sub (fo_e (fe_ix o2_ixA (ix_A hr.u1) (fo_name (pv 0)) (fo_v fv_str) (fun _ _ => rfl))) (fo_v fv_int))) (fun _ _ => rfl))) fa_nil))) (fo_name (pv 1)))))))
theorem ok__law_next {P : Program} {w : World} {K : PySem.W.Frag} {mg : Str → Option Value} {base : Heap} {f : Addr} {fd : FuncData} (M : Mg mg) (F : FunD K "_law_next" "_law_next" (defArgs s__law_next) (defBody s__law_next) (defScope s__law_next) [] [] f fd)  (hm : mg "_law_next" = some (.ref f)) : Ow P w K mg base 1 "_law_next" ["w", "many"] (spW K 1 F__law_next) :=
  ⟨f, fd, hm, F.kp, F.bindsN fun _ _ _ _ _ _ us hl => match us, hl with | [_, _], _ => rfl, fn__law_next M F ⟩
def b__law_program : Sv := sSeq (sSet 1 (fCallW 1 0 (lCons (fC (.int 3)) (lNil)) F__law_next)) (sSeq (sSet 2 (ofV (fTup (lCons (fTup (lCons (fC (.int 1)) (lCons (fTup (lCons (fC (.str "ask")) (lCons (fC (.str "x")) (lNil)))) (lNil)))) (lCons (fTup (lCons (fC (.int 2)) (lCons (fTup (lCons (fC (.str "let")) (lCons (fC (.str "y")) (lCons (fTup (lCons (fC (.str "add")) (lCons (fTup (lCons (fC (.str "var")) (lCons (fC (.str "x")) (lNil)))) (lCons (toV (fCallW 1 0 (lCons (fC (.int 5)) (lNil)) F__law_next)) (lNil))))) (lNil))))) (lNil)))) (lCons (fTup (lCons (fC (.int 3)) (lCons (fTup (lCons (fC (.str "put")) (lCons (fName 1) (lCons (fTup (lCons (fC (.str "var")) (lCons (fC (.str "y")) (lNil)))) (lNil))))) (lNil)))) (lNil))))))) (sSeq (sSet 2 (f2 (fSlot 2) (svO (fTup (lCons (fTup (lCons (fC (.int 4)) (lCons (fTup (lCons (fC (.str "call")) (lCons (fC (.str "z")) (lCons (fC (.str "f")) (lCons (fTup (lCons (fTup (lCons (fC (.str "var")) (lCons (fC (.str "y")) (lNil)))) (lCons (toV (fCallW 1 0 (lCons (fC (.int 4)) (lNil)) F__law_next)) (lNil)))) (lNil)))))) (lNil)))) (lCons (fTup (lCons (fC (.int 5)) (lCons (fTup (lCons (fC (.str "put")) (lCons (fTup (lCons (fC (.str "var")) (lCons (fC (.str "z")) (lNil)))) (lCons (fTup (lCons (fC (.str "sub")) (lCons (fTup (lCons (fC (.str "var")) (lCons (fC (.str "z")) (lNil)))) (lCons (fTup (lCons (fC (.str "var")) (lCons (fC (.str "z")) (lNil)))) (lNil))))) (lNil))))) (lNil)))) (lCons (fTup (lCons (fC (.int 6)) (lCons (fTup (lCons (fC (.str "say")) (lCons (fTup (lCons (fC (.str "cell")) (lCons (fName 1) (lNil)))) (lNil)))) (lNil)))) (lNil)))))) (dAdd))) (sSeq (sSet 3 (ofV (fTup (lCons (fTup (lCons (fC (.int 7)) (lCons (fTup (lCons (fC (.str "put")) (lCons (fTup (lCons (fC (.str "var")) (lCons (fC (.str "a")) (lNil)))) (lCons (fTup (lCons (fC (.str "mul")) (lCons (fTup (lCons (fC (.str "var")) (lCons (fC (.str "a")) (lNil)))) (lCons (fTup (lCons (fC (.str "var")) (lCons (fC (.str "b")) (lNil)))) (lNil))))) (lNil))))) (lNil)))) (lCons (fTup (lCons (fC (.int 8)) (lCons (fTup (lCons (fC (.str "let")) (lCons (fC (.str "c")) (lCons (fTup (lCons (fC (.str "cell")) (lCons (fTup (lCons (fC (.str "var")) (lCons (fC (.str "a")) (lNil)))) (lNil)))) (lNil))))) (lNil)))) (lNil)))))) (sSeq (sSet 3 (f2 (fSlot 3) (svO (fTup (lCons (fTup (lCons (fC (.int 9)) (lCons (fTup (lCons (fC (.str "if")) (lCons (fTup (lCons (fC (.str "less")) (lCons (fTup (lCons (fC (.str "var")) (lCons (fC (.str "b")) (lNil)))) (lCons (fC (.int 2)) (lNil))))) (lCons (fC (.int 4)) (lNil))))) (lNil)))) (lCons (fTup (lCons (fC (.int 10)) (lCons (fTup (lCons (fC (.str "say")) (lCons (fTup (lCons (fC (.str "var")) (lCons (fC (.str "c")) (lNil)))) (lNil)))) (lNil)))) (lCons (fTup (lCons (fC (.int 11)) (lCons (fTup (lCons (fC (.str "give")) (lCons (fTup (lCons (fC (.str "add")) (lCons (fTup (lCons (fC (.str "var")) (lCons (fC (.str "c")) (lNil)))) (lCons (fC (.int 1)) (lNil))))) (lNil)))) (lNil)))) (lNil)))))) (dAdd))) (sRet (fDisp (lCons (fC (.str "main")) (lCons (fTup (lCons (fTup (lNil)) (lCons (fName 2) (lNil)))) (lCons (fC (.str "f")) (lCons (fTup (lCons (fTup (lCons (fC (.str "a")) (lCons (fC (.str "b")) (lNil)))) (lCons (fName 3) (lNil)))) (lNil)))))))))))
def F__law_program : D → List D → Option (D × Bool × D) := mkW 4 b__law_program
theorem sc__law_program : FnScope ["w", "cell", "main", "body"] ["w"] (defScope s__law_program) := ⟨rfl, rfl, rfl, by decide +kernel, rfl, by decide +kernel, by decide +kernel⟩
theorem fn__law_program {P : Program} {w : World} {K : PySem.W.Frag} {mg : Str → Option Value} {base : Heap} {f : Addr} {fd : FuncData} (M : Mg mg) (F : FunD K "_law_program" "_law_program" (defArgs s__law_program) (defBody s__law_program) (defScope s__law_program) [] [] f fd) (c__law_next : Ow P w K mg base 1 "_law_next" ["w", "many"] (spW K 1 F__law_next)) : FnOk P w K mg base CX0 2 f fd ["w"] (spW K 0 F__law_program) := by
  have hN := sc__law_program.nd
  refine ok_defW (np := 0) F sc__law_program rfl (by decide) fun cdv A outer s H E hr => ?_
  have hc : (cxOf CX0 P w K mg base ["w", "cell", "main", "body"] "_law_program" (defScope s__law_program) f cdv A outer s H E).nox.calm = true := rfl
  exact (fs_cons (fs_set (i := 1) hN (fe_callWO c__law_next hr (pv 0) (fl_cons fv_int fl_nil) (by first | decide | omega | (simp only [Nat.add_eq]; omega)))) (fs_cons (fs_set (i := 2) hN (fe_v (fv_tup (fl_cons (fv_tup (fl_cons fv_int (fl_cons (fv_tup (fl_cons fv_str (fl_cons fv_str fl_nil))) fl_nil))) (fl_cons (fv_tup (fl_cons fv_int (fl_cons (fv_tup (fl_cons fv_str (fl_cons fv_str (fl_cons (fv_tup (fl_cons fv_str (fl_cons (fv_tup (fl_cons fv_str (fl_cons fv_str fl_nil))) (fl_cons (fv_e (fe_callWO c__law_next hr (pv 0) (fl_cons fv_int fl_nil) (by first | decide | omega | (simp only [Nat.add_eq]; omega)))) fl_nil)))) fl_nil)))) fl_nil))) (fl_cons (fv_tup (fl_cons fv_int (fl_cons (fv_tup (fl_cons fv_str (fl_cons (fv_name (pv 1)) (fl_cons (fv_tup (fl_cons fv_str (fl_cons fv_str fl_nil))) fl_nil)))) fl_nil))) fl_nil)))))) (fs_cons (fs_set (i := 2) hN (fe_op o2_add op_addD (fo_name (pv 2)) (fo_v (fv_tup (fl_cons (fv_tup (fl_cons fv_int (fl_cons (fv_tup (fl_cons fv_str (fl_cons fv_str (fl_cons fv_str (fl_cons (fv_tup (fl_cons (fv_tup (fl_cons fv_str (fl_cons fv_str fl_nil))) (fl_cons (fv_e (fe_callWO c__law_next hr (pv 0) (fl_cons fv_int fl_nil) (by first | decide | omega | (simp only [Nat.add_eq]; omega)))) fl_nil))) fl_nil))))) fl_nil))) (fl_cons (fv_tup (fl_cons fv_int (fl_cons (fv_tup (fl_cons fv_str (fl_cons (fv_tup (fl_cons fv_str (fl_cons fv_str fl_nil))) (fl_cons (fv_tup (fl_cons fv_str (fl_cons (fv_tup (fl_cons fv_str (fl_cons fv_str fl_nil))) (fl_cons (fv_tup (fl_cons fv_str (fl_cons fv_str fl_nil))) fl_nil)))) fl_nil)))) fl_nil))) (fl_cons (fv_tup (fl_cons fv_int (fl_cons (fv_tup (fl_cons fv_str (fl_cons (fv_tup (fl_cons fv_str (fl_cons (fv_name (pv 1)) fl_nil))) fl_nil))) fl_nil))) fl_nil))))))) (fs_cons (fs_set (i := 3) hN (fe_v (fv_tup (fl_cons (fv_tup (fl_cons fv_int (fl_cons (fv_tup (fl_cons fv_str (fl_cons (fv_tup (fl_cons fv_str (fl_cons fv_str fl_nil))) (fl_cons (fv_tup (fl_cons fv_str (fl_cons (fv_tup (fl_cons fv_str (fl_cons fv_str fl_nil))) (fl_cons (fv_tup (fl_cons fv_str (fl_cons fv_str fl_nil))) fl_nil)))) fl_nil)))) fl_nil))) (fl_cons (fv_tup (fl_cons fv_int (fl_cons (fv_tup (fl_cons fv_str (fl_cons fv_str (fl_cons (fv_tup (fl_cons fv_str (fl_cons (fv_tup (fl_cons fv_str (fl_cons fv_str fl_nil))) fl_nil))) fl_nil)))) fl_nil))) fl_nil))))) (fs_cons (fs_set (i := 3) hN (fe_op o2_add op_addD (fo_name (pv 3)) (fo_v (fv_tup (fl_cons (fv_tup (fl_cons fv_int (fl_cons (fv_tup (fl_cons fv_str (fl_cons (fv_tup (fl_cons fv_str (fl_cons (fv_tup (fl_cons fv_str (fl_cons fv_str fl_nil))) (fl_cons fv_int fl_nil)))) (fl_cons fv_int fl_nil)))) fl_nil))) (fl_cons (fv_tup (fl_cons fv_int (fl_cons (fv_tup (fl_cons fv_str (fl_cons (fv_tup (fl_cons fv_str (fl_cons fv_str fl_nil))) fl_nil))) fl_nil))) (fl_cons (fv_tup (fl_cons fv_int (fl_cons (fv_tup (fl_cons fv_str (fl_cons (fv_tup (fl_cons fv_str (fl_cons (fv_tup (fl_cons fv_str (fl_cons fv_str fl_nil))) (fl_cons fv_int fl_nil)))) fl_nil))) fl_nil))) fl_nil))))))) (fs_one (fs_ret (fe_disp (pps_cons fv_str (fv_tup (fl_cons (fv_tup fl_nil) (fl_cons (fv_name (pv 2)) fl_nil))) (pps_cons fv_str (fv_tup (fl_cons (fv_tup (fl_cons fv_str (fl_cons fv_str fl_nil))) (fl_cons (fv_name (pv 3)) fl_nil))) pps_nil)) (fps_cons (fps_cons fps_nil))))))))))
theorem ok__law_program {P : Program} {w : World} {K : PySem.W.Frag} {mg : Str → Option Value} {base : Heap} {f : Addr} {fd : FuncData} (M : Mg mg) (F : FunD K "_law_program" "_law_program" (defArgs s__law_program) (defBody s__law_program) (defScope s__law_program) [] [] f fd) (c__law_next : Ow P w K mg base 1 "_law_next" ["w", "many"] (spW K 1 F__law_next)) (hm : mg "_law_program" = some (.ref f)) : Ow P w K mg base 2 "_law_program" ["w"] (spW K 0 F__law_program) :=
  ⟨f, fd, hm, F.kp, F.bindsN fun _ _ _ _ _ _ us hl => match us, hl with | [_], _ => rfl, fn__law_program M F c__law_next⟩
def b__law_row : Sv := sSeq (sSet 2 (ofV (fC (.int 0)))) (sSeq (whileL (tAndF (tB1 (f2 (fSlot 2) (toO (fN (aCons (toO (fN (aCons (toO (f2 (fSlot 0) (svO (fC (.int 0))) dIxA)) (aNil)) dLen)) (aCons (toO (fN (aCons (toO (f2 (fSlot 1) (svO (fC (.int 0))) dIxA)) (aNil)) dLen)) (aNil))) dMin2)) (isI iLt))) (tB1 (f2 (toO (fSl (toO (f2 (fSlot 0) (svO (fC (.int 0))) dIxA)) (pNone) (pInt (toO (f2 (fSlot 2) (svO (fC (.int 1))) (dAdd)))) dSl)) (toO (fSl (toO (f2 (fSlot 1) (svO (fC (.int 0))) dIxA)) (pNone) (pInt (toO (f2 (fSlot 2) (svO (fC (.int 1))) (dAdd)))) dSl)) (dEq)))) (sAugN 2 (fC (.int 1)) zAdd) fuelN) (sSeq (sParN [3, 4, 5] (mCons (fN (aCons (toO (f2 (fSlot 0) (svO (fC (.int 1))) dIxA)) (aNil)) dDict) (mCons (fN (aCons (toO (f2 (fSlot 1) (svO (fC (.int 1))) dIxA)) (aNil)) dDict) (mCons (fLst (lNil)) (mNil))))) (sSeq (sFor (itV (toV (fN (aCons (toO (f2 (toO (fN (aCons (fSlot 3) (aNil)) dListA)) (toO (fN (aCons (fSlot 4) (aNil)) dListA)) (dAdd))) (aNil)) dSortSetK))) (gN 6) (sIf (tB1 (f2 (toO (fMeth (fSlot 3) isDct (aCons (fSlot 6) (aCons (svO (fC (.int 0))) (aNil))) dGetM)) (toO (fMeth (fSlot 4) isDct (aCons (fSlot 6) (aCons (svO (fC (.int 0))) (aNil))) dGetM)) (dNe))) (sExpr (fMut 5 isLst (lCons (fTup (lCons (fName 6) (lCons (toV (fMeth (fSlot 3) isDct (aCons (fSlot 6) (aCons (svO (fC (.int 0))) (aNil))) dGetM)) (lNil)))) (lNil)) mAppend)) (sNx))) (sRet (ofV (fTup (lCons (toV (f2 (toO (fN (aCons (toO (f2 (fSlot 1) (svO (fC (.int 0))) dIxA)) (aNil)) dLen)) (fSlot 2) (isI iSub))) (lCons (toV (fSl (toO (f2 (fSlot 0) (svO (fC (.int 0))) dIxA)) (pInt (fSlot 2)) (pNone) dSl)) (lCons (toV (fN (aCons (fSlot 5) (aNil)) dTuple)) (lCons (toV (fN (aCons (toO (f2 (fSlot 0) (svO (fC (.int 2))) dIxA)) (aNil)) dLen)) (lCons (toV (f2 (fSlot 0) (svO (fC (.int 3))) dIxA)) (lNil))))))))))))
def F__law_row : List D → Option (D × Bool) := mk0 7 b__law_row
theorem sc__law_row : FnScope ["old", "new", "same", "ahead", "behind", "rows", "cell"] ["old", "new"] (defScope s__law_row) := ⟨rfl, rfl, rfl, by decide +kernel, rfl, by decide +kernel, by decide +kernel⟩
theorem fn__law_row {P : Program} {w : World} {K : PySem.W.Frag} {mg : Str → Option Value} {base : Heap} {f : Addr} {fd : FuncData} (M : Mg mg) (F : FunD K "_law_row" "_law_row" (defArgs s__law_row) (defBody s__law_row) (defScope s__law_row) [] [] f fd)  : FnOk P w K mg base CX0 1 f fd ["old", "new"] (sp0 K 2 F__law_row) := by
  have hN := sc__law_row.nd
  refine ok_def0 F sc__law_row fun cdv A outer s H E hr => ?_
  have hc : (cxOf CX0 P w K mg base ["old", "new", "same", "ahead", "behind", "rows", "cell"] "_law_row" (defScope s__law_row) f cdv A outer s H E).nox.calm = true := rfl
  exact (fs_cons (fs_set (i := 2) hN (fe_v fv_int)) (fs_cons (fs_while PassesOwn.never (PW.pt (fw_and (ft_cmp o2_ltI op_lt (fo_name (pv 2)) (fo_e (fe_callB on_min2 (call_min2 hc) M.min (fa_cons (fo_e (fe_callB on_len cr_lenA M.len (fa_cons (fo_e (fe_ix o2_ixA (ix_A hr.u1) (fo_name (pv 0)) (fo_v fv_int) (fun _ _ => rfl))) fa_nil))) (fa_cons (fo_e (fe_callB on_len cr_lenA M.len (fa_cons (fo_e (fe_ix o2_ixA (ix_A hr.u1) (fo_name (pv 1)) (fo_v fv_int) (fun _ _ => rfl))) fa_nil))) fa_nil)))) (nomark _)) (fw_and1 (ft_cmp o2_eq (op_eqD hr.u64) (fo_e (fe_slice os_sl sl_D (fo_e (fe_ix o2_ixA (ix_A hr.u1) (fo_name (pv 0)) (fo_v fv_int) (fun _ _ => rfl))) fp_none (fp_some (fo_e (fe_op o2_add op_addD (fo_name (pv 2)) (fo_v fv_int)))))) (fo_e (fe_slice os_sl sl_D (fo_e (fe_ix o2_ixA (ix_A hr.u1) (fo_name (pv 1)) (fo_v fv_int) (fun _ _ => rfl))) fp_none (fp_some (fo_e (fe_op o2_add op_addD (fo_name (pv 2)) (fo_v fv_int)))))) (nomark _))))) (fs_one (fs_aug (i := 2) hN fv_int ip_add i2_add))) (fs_cons (fs_par3 (i := 3) (j := 4) (m := 5) hc hN (fm_cons (fe_callTy on_dict (cr_dictOf hc) M.dict (fa_cons (fo_e (fe_ix o2_ixA (ix_A hr.u1) (fo_name (pv 0)) (fo_v fv_int) (fun _ _ => rfl))) fa_nil)) (fm_cons (fe_callTy on_dict (cr_dictOf hc) M.dict (fa_cons (fo_e (fe_ix o2_ixA (ix_A hr.u1) (fo_name (pv 1)) (fo_v fv_int) (fun _ _ => rfl))) fa_nil)) (fm_cons (fe_lst fl_nil) fm_nil)))) (fs_cons (fs_for PassesOwn.never hc (fi_val (fv_e (fe_sortSetK hc hr.u64 M.sorted M.set (fa_cons (fo_e (fe_op o2_add op_addD (fo_e (fe_callTy on_listA (cr_listA hc) M.list (fa_cons (fo_name (pv 3)) fa_nil))) (fo_e (fe_callTy on_listA (cr_listA hc) M.list (fa_cons (fo_name (pv 4)) fa_nil))))) fa_nil)))) (fg_name hN) (fs_one (fs_if (ft_cmp o2_ne (op_neD hr.u64) (fo_e (fe_meth (kindD _) or_dget PySem.F.plainAttrs_dict PySem.F.slot_dict_get PySem.F.type_dict_get (mt_dget hr.u1) (fo_name (pv 3)) (fa_cons (fo_name (pv 6)) (fa_cons (fo_v fv_int) fa_nil)))) (fo_e (fe_meth (kindD _) or_dget PySem.F.plainAttrs_dict PySem.F.slot_dict_get PySem.F.type_dict_get (mt_dget hr.u1) (fo_name (pv 4)) (fa_cons (fo_name (pv 6)) (fa_cons (fo_v fv_int) fa_nil)))) (nomark _)) (fs_one (fs_expr (fe_mut (kindL _) om_append PySem.F.plainAttrs_list PySem.F.slot_list_append PySem.type_list_append mt_append (pv 5) (fl_cons (fv_tup (fl_cons (fv_name (pv 6)) (fl_cons (fv_e (fe_meth (kindD _) or_dget PySem.F.plainAttrs_dict PySem.F.slot_dict_get PySem.F.type_dict_get (mt_dget hr.u1) (fo_name (pv 3)) (fa_cons (fo_name (pv 6)) (fa_cons (fo_v fv_int) fa_nil)))) fl_nil))) fl_nil)))) fs_nil))) (fs_one (fs_ret (fe_v (fv_tup (fl_cons (fv_e (fe_op o2_sub op_sub (fo_e (fe_callB on_len cr_lenA M.len (fa_cons (fo_e (fe_ix o2_ixA (ix_A hr.u1) (fo_name (pv 1)) (fo_v fv_int) (fun _ _ => rfl))) fa_nil))) (fo_name (pv 2)))) (fl_cons (fv_e (fe_slice os_sl sl_D (fo_e (fe_ix o2_ixA (ix_A hr.u1) (fo_name (pv 0)) (fo_v fv_int) (fun _ _ => rfl))) (fp_some (fo_name (pv 2))) fp_none)) (fl_cons (fv_e (fe_callTy on_tuple cr_tupOf M.tuple (fa_cons (fo_name (pv 5)) fa_nil))) (fl_cons (fv_e (fe_callB on_len cr_lenA M.len (fa_cons (fo_e (fe_ix o2_ixA (ix_A hr.u1) (fo_name (pv 0)) (fo_v fv_int) (fun _ _ => rfl))) fa_nil))) (fl_cons (fv_e (fe_ix o2_ixA (ix_A hr.u1) (fo_name (pv 0)) (fo_v fv_int) (fun _ _ => rfl))) fl_nil)))))))))))))
theorem ok__law_row {P : Program} {w : World} {K : PySem.W.Frag} {mg : Str → Option Value} {base : Heap} {f : Addr} {fd : FuncData} (M : Mg mg) (F : FunD K "_law_row" "_law_row" (defArgs s__law_row) (defBody s__law_row) (defScope s__law_row) [] [] f fd)  (hm : mg "_law_row" = some (.ref f)) : Ow P w K mg base 1 "_law_row" ["old", "new"] (sp0 K 2 F__law_row) :=
  ⟨f, fd, hm, F.kp, F.bindsN fun _ _ _ _ _ _ us hl => match us, hl with | [_, _], _ => rfl, fn__law_row M F ⟩
def b__law_size : Sv := sRet (f2 (toO (f2 (toO (f2 (toO (fN (aCons (toO (fLc [1] (itV (toV (f2 (fSlot 0) (svO (fC (.int 0))) dIxA))) (gN 1) (tTrue) (toV (f2 (svO (fC (.int 2))) (toO (f2 (svO (fC (.int 2))) (toO (fN (aCons (toO (f2 (fSlot 1) (svO (fC (.int 2))) dIxA)) (aNil)) dLen)) (isI iMul))) (dAdd))))) (aNil)) dSum)) (toO (f2 (svO (fC (.int 2))) (toO (fN (aCons (toO (f2 (fSlot 0) (svO (fC (.int 1))) dIxA)) (aNil)) dLen)) (isI iMul))) (dAdd))) (toO (fN (aCons (toO (f2 (fSlot 0) (svO (fC (.int 2))) dIxA)) (aNil)) dLen)) (dAdd))) (svO (fC (.int 1))) (dAdd))
def F__law_size : List D → Option (D × Bool) := mk0 2 b__law_size
theorem sc__law_size : FnScope ["state", "frame"] ["state"] (defScope s__law_size) := ⟨rfl, rfl, rfl, by decide +kernel, rfl, by decide +kernel, by decide +kernel⟩
theorem fn__law_size {P : Program} {w : World} {K : PySem.W.Frag} {mg : Str → Option Value} {base : Heap} {f : Addr} {fd : FuncData} (M : Mg mg) (F : FunD K "_law_size" "_law_size" (defArgs s__law_size) (defBody s__law_size) (defScope s__law_size) [] [] f fd)  : FnOk P w K mg base CX0 1 f fd ["state"] (sp0 K 1 F__law_size) := by
  have hN := sc__law_size.nd
  refine ok_def0 F sc__law_size fun cdv A outer s H E hr => ?_
  have hc : (cxOf CX0 P w K mg base ["state", "frame"] "_law_size" (defScope s__law_size) f cdv A outer s H E).nox.calm = true := rfl
  exact (fs_one (fs_ret (fe_op o2_add op_addD (fo_e (fe_op o2_add op_addD (fo_e (fe_op o2_add op_addD (fo_e (fe_callB on_sum (cr_sum hc) M.sum (fa_cons (fo_e (fe_lc (own := [("frame", 1)]) hc hN (fi_val (fv_e (fe_ix o2_ixA (ix_A hr.u1) (fo_name (pv 0)) (fo_v fv_int) (fun _ _ => rfl)))) (blkOf (by kernel_rfl)) (by decide) (fun _ _ _ _ _ => (fg_name hN)) (fun _ _ _ _ _ => ft_none) (fun _ _ _ _ _ => (fv_e (fe_op o2_add op_addD (fo_v fv_int) (fo_e (fe_op o2_mulI op_mul (fo_v fv_int) (fo_e (fe_callB on_len cr_lenA M.len (fa_cons (fo_e (fe_ix o2_ixA (ix_A hr.u1) (fo_name (pv 1)) (fo_v fv_int) (fun _ _ => rfl))) fa_nil)))))))))) fa_nil))) (fo_e (fe_op o2_mulI op_mul (fo_v fv_int) (fo_e (fe_callB on_len cr_lenA M.len (fa_cons (fo_e (fe_ix o2_ixA (ix_A hr.u1) (fo_name (pv 0)) (fo_v fv_int) (fun _ _ => rfl))) fa_nil))))))) (fo_e (fe_callB on_len cr_lenA M.len (fa_cons (fo_e (fe_ix o2_ixA (ix_A hr.u1) (fo_name (pv 0)) (fo_v fv_int) (fun _ _ => rfl))) fa_nil))))) (fo_v fv_int))))
theorem ok__law_size {P : Program} {w : World} {K : PySem.W.Frag} {mg : Str → Option Value} {base : Heap} {f : Addr} {fd : FuncData} (M : Mg mg) (F : FunD K "_law_size" "_law_size" (defArgs s__law_size) (defBody s__law_size) (defScope s__law_size) [] [] f fd)  (hm : mg "_law_size" = some (.ref f)) : Ow P w K mg base 1 "_law_size" ["state"] (sp0 K 1 F__law_size) :=
  ⟨f, fd, hm, F.kp, F.bindsN fun _ _ _ _ _ _ us hl => match us, hl with | [_], _ => rfl, fn__law_size M F ⟩
def b__law_row_size : Sv := sRet (f2 (toO (f2 (svO (fC (.int 3))) (toO (fN (aCons (toO (fLc [1] (itV (toV (f2 (fSlot 0) (svO (fC (.int 1))) dIxA))) (gN 1) (tTrue) (toV (f2 (svO (fC (.int 2))) (toO (f2 (svO (fC (.int 2))) (toO (fN (aCons (toO (f2 (fSlot 1) (svO (fC (.int 2))) dIxA)) (aNil)) dLen)) (isI iMul))) (dAdd))))) (aNil)) dSum)) (dAdd))) (toO (f2 (svO (fC (.int 2))) (toO (fN (aCons (toO (f2 (fSlot 0) (svO (fC (.int 2))) dIxA)) (aNil)) dLen)) (isI iMul))) (dAdd))
def F__law_row_size : List D → Option (D × Bool) := mk0 2 b__law_row_size
theorem sc__law_row_size : FnScope ["row", "frame"] ["row"] (defScope s__law_row_size) := ⟨rfl, rfl, rfl, by decide +kernel, rfl, by decide +kernel, by decide +kernel⟩
theorem fn__law_row_size {P : Program} {w : World} {K : PySem.W.Frag} {mg : Str → Option Value} {base : Heap} {f : Addr} {fd : FuncData} (M : Mg mg) (F : FunD K "_law_row_size" "_law_row_size" (defArgs s__law_row_size) (defBody s__law_row_size) (defScope s__law_row_size) [] [] f fd)  : FnOk P w K mg base CX0 1 f fd ["row"] (sp0 K 1 F__law_row_size) := by
  have hN := sc__law_row_size.nd
  refine ok_def0 F sc__law_row_size fun cdv A outer s H E hr => ?_
  have hc : (cxOf CX0 P w K mg base ["row", "frame"] "_law_row_size" (defScope s__law_row_size) f cdv A outer s H E).nox.calm = true := rfl
  exact (fs_one (fs_ret (fe_op o2_add op_addD (fo_e (fe_op o2_add op_addD (fo_v fv_int) (fo_e (fe_callB on_sum (cr_sum hc) M.sum (fa_cons (fo_e (fe_lc (own := [("frame", 1)]) hc hN (fi_val (fv_e (fe_ix o2_ixA (ix_A hr.u1) (fo_name (pv 0)) (fo_v fv_int) (fun _ _ => rfl)))) (blkOf (by kernel_rfl)) (by decide) (fun _ _ _ _ _ => (fg_name hN)) (fun _ _ _ _ _ => ft_none) (fun _ _ _ _ _ => (fv_e (fe_op o2_add op_addD (fo_v fv_int) (fo_e (fe_op o2_mulI op_mul (fo_v fv_int) (fo_e (fe_callB on_len cr_lenA M.len (fa_cons (fo_e (fe_ix o2_ixA (ix_A hr.u1) (fo_name (pv 1)) (fo_v fv_int) (fun _ _ => rfl))) fa_nil)))))))))) fa_nil))))) (fo_e (fe_op o2_mulI op_mul (fo_v fv_int) (fo_e (fe_callB on_len cr_lenA M.len (fa_cons (fo_e (fe_ix o2_ixA (ix_A hr.u1) (fo_name (pv 0)) (fo_v fv_int) (fun _ _ => rfl))) fa_nil))))))))
theorem ok__law_row_size {P : Program} {w : World} {K : PySem.W.Frag} {mg : Str → Option Value} {base : Heap} {f : Addr} {fd : FuncData} (M : Mg mg) (F : FunD K "_law_row_size" "_law_row_size" (defArgs s__law_row_size) (defBody s__law_row_size) (defScope s__law_row_size) [] [] f fd)  (hm : mg "_law_row_size" = some (.ref f)) : Ow P w K mg base 1 "_law_row_size" ["row"] (sp0 K 1 F__law_row_size) :=
  ⟨f, fd, hm, F.kp, F.bindsN fun _ _ _ _ _ _ us hl => match us, hl with | [_], _ => rfl, fn__law_row_size M F ⟩
def b_law : Sv := sSeq (sSet 1 (fDisp (lCons (fC (.str "draws")) (lCons (toV (fCall 2 (lCons (fName 0) (lCons (fC (.int 80)) (lNil))) F__law_draws)) (lCons (fC (.str "at")) (lCons (fC (.int 0)) (lNil))))))) (sSeq (sFor (itR (aCons (svO (fC (.int 3))) (aNil)) range1D) (gN 2) (sSeq (sSet 3 (fCallW 0 1 (lNil) F__law_program)) (sSeq (sSet 4 (fCall 3 (lCons (fName 3) (lCons (fTup (lCons (toV (fCallW 1 1 (lCons (fC (.int 4)) (lNil)) F__law_next)) (lNil))) (lCons (fC (.int 40)) (lNil)))) F_run_of)) (sSeq (sIf (tOrF (tB1 (f2 (toO (fN (aCons (fSlot 4) (aNil)) dLen)) (svO (fC (.int 8))) (isI iLt))) (tB1 (f2 (toO (f2 (toO (f2 (fSlot 4) (toO (f1 (svO (fC (.int 1))) dNeg)) dIxA)) (svO (fC (.int 0))) dIxA)) (svO (fTup (lNil))) (dNe)))) (sRet (ofV (fC (.bool false)))) (sNx)) (sSeq (sSet 5 (fLc [6] (itR (aCons (toO (f2 (toO (fN (aCons (fSlot 4) (aNil)) dLen)) (svO (fC (.int 1))) (isI iSub))) (aNil)) range1D) (gN 6) (tTrue) (toV (fCall 2 (lCons (toV (f2 (fSlot 4) (fSlot 6) dIxA)) (lCons (toV (f2 (fSlot 4) (toO (f2 (fSlot 6) (svO (fC (.int 1))) (dAdd))) dIxA)) (lNil))) F__law_row)))) (sSeq (sIf (tB1 (f2 (toO (fCall 1 (lCons (fName 4) (lNil)) F_undo_rows)) (toO (fN (aCons (fSlot 5) (aNil)) dTuple)) (dNe))) (sRet (ofV (fC (.bool false)))) (sNx)) (sSeq (sFor (itR (aCons (toO (fN (aCons (fSlot 5) (aNil)) dLen)) (aNil)) range1D) (gN 6) (sSeq (sIf (tOrF (tB1 (f2 (toO (fCall 2 (lCons (toV (f2 (fSlot 4) (fSlot 6) dIxA)) (lCons (toV (f2 (fSlot 4) (toO (f2 (fSlot 6) (svO (fC (.int 1))) (dAdd))) dIxA)) (lNil))) F_undo_row)) (toO (f2 (fSlot 5) (fSlot 6) dIxA)) (dNe))) (tB1 (f2 (toO (fCall 2 (lCons (toV (f2 (fSlot 4) (toO (f2 (fSlot 6) (svO (fC (.int 1))) (dAdd))) dIxA)) (lCons (toV (f2 (fSlot 5) (fSlot 6) dIxA)) (lNil))) F_undone)) (toO (f2 (fSlot 4) (fSlot 6) dIxA)) (dNe)))) (sRet (ofV (fC (.bool false)))) (sNx)) (sIf (tOrF (tB1 (fIs (toO (fCall 3 (lCons (toV (f2 (fSlot 4) (fSlot 6) dIxA)) (lCons (toV (f2 (fSlot 4) (toO (f2 (fSlot 6) (svO (fC (.int 1))) (dAdd))) dIxA)) (lCons (toV (f2 (fSlot 5) (fSlot 6) dIxA)) (lNil)))) F_is_row_for)) (fun d => !isBD true d))) (tB1 (f2 (toO (fCall 1 (lCons (toV (f2 (fSlot 5) (fSlot 6) dIxA)) (lNil)) F_size_of_row)) (toO (fCall 1 (lCons (toV (f2 (fSlot 5) (fSlot 6) dIxA)) (lNil)) F__law_row_size)) (dNe)))) (sRet (ofV (fC (.bool false)))) (sNx)))) (sSeq (sSet 7 (fCallW 1 1 (lCons (toV (fN (aCons (fSlot 4) (aNil)) dLen)) (lNil)) F__law_next)) (sSeq (sIf (tB1 (f2 (toO (fCall 3 (lCons (toV (f2 (fSlot 4) (toO (f1 (svO (fC (.int 1))) dNeg)) dIxA)) (lCons (toV (fN (aCons (fSlot 5) (aNil)) dTuple)) (lCons (fName 7) (lNil)))) F_back_by)) (toO (f2 (fSlot 4) (toO (f2 (toO (f2 (toO (fN (aCons (fSlot 4) (aNil)) dLen)) (svO (fC (.int 1))) (isI iSub))) (fSlot 7) (isI iSub))) dIxA)) (dNe))) (sRet (ofV (fC (.bool false)))) (sNx)) (sSeq (sSet 8 (ofV (fTup (lCons (toV (fN (aCons (toO (fLc [9] (itV (fName 4)) (gN 9) (tTrue) (toV (fCall 1 (lCons (fName 9) (lNil)) F__law_size)))) (aNil)) dSum)) (lCons (toV (f2 (toO (fCall 1 (lCons (toV (f2 (fSlot 4) (toO (f1 (svO (fC (.int 1))) dNeg)) dIxA)) (lNil)) F__law_size)) (toO (fN (aCons (toO (fLc [10] (itV (fName 5)) (gN 10) (tTrue) (toV (fCall 1 (lCons (fName 10) (lNil)) F__law_row_size)))) (aNil)) dSum)) (dAdd))) (lNil)))))) (sSeq (sIf (tOrF (tB1 (f2 (toO (fLc [9] (itV (fName 4)) (gN 9) (tB1 (f2 (toO (fCall 1 (lCons (fName 9) (lNil)) F_size_of_state)) (toO (fCall 1 (lCons (fName 9) (lNil)) F__law_size)) (dNe))) (fName 9))) (toO (fLst (lNil))) (dNe))) (tB1 (f2 (toO (fCall 1 (lCons (fName 4) (lNil)) F_sizes)) (fSlot 8) (dNe)))) (sRet (ofV (fC (.bool false)))) (sNx)) (sSeq (sIf (tB1 (f2 (toO (fCall 1 (lCons (fName 4) (lNil)) F_untouched)) (toO (fN (aCons (toO (fLc [6] (itR (aCons (toO (fN (aCons (fSlot 5) (aNil)) dLen)) (aNil)) range1D) (gN 6) (tB1 (f2 (toO (f2 (toO (f2 (fSlot 5) (fSlot 6) dIxA)) (svO (fC (.int 2))) dIxA)) (svO (fTup (lNil))) (dEq))) (toV (f2 (fSlot 6) (svO (fC (.int 1))) (dAdd))))) (aNil)) dTuple)) (dNe))) (sRet (ofV (fC (.bool false)))) (sNx)) (sSeq (sSet 11 (fCallW 1 1 (lCons (toV (fN (aCons (fSlot 5) (aNil)) dLen)) (lNil)) F__law_next)) (sSeq (sAsg (toV (f2 (fSlot 5) (fSlot 11) dIxA)) (gT 5 (gsCons (gN 12) (gsCons (gN 13) (gsCons (gN 14) (gsCons (gN 15) (gsCons (gN 16) (gsNil)))))))) (sSeq (sSet 17 (f2 (fSlot 13) (svO (fTup (lCons (fTup (lCons (fC (.str "main")) (lCons (fC (.int 0)) (lCons (fTup (lNil)) (lCons (fC .none) (lNil)))))) (lNil)))) (dAdd))) (sSeq (sSet 18 (f2 (toO (fLst (lCons (fTup (lCons (fName 12) (lCons (fName 13) (lCons (toV (f2 (fSlot 14) (svO (fTup (lCons (fTup (lCons (fC (.int 77)) (lCons (fC (.int 5)) (lNil)))) (lNil)))) (dAdd))) (lCons (fName 15) (lCons (fName 16) (lNil))))))) (lCons (fTup (lCons (fName 12) (lCons (fName 13) (lCons (fName 14) (lCons (fName 15) (lCons (toV (f2 (fSlot 16) (svO (fC (.int 1))) (dAdd))) (lNil))))))) (lCons (fTup (lCons (fName 12) (lCons (fName 17) (lCons (fName 14) (lCons (fName 15) (lCons (fName 16) (lNil))))))) (lNil)))))) (toO (fCallW 1 1 (lCons (fC (.int 3)) (lNil)) F__law_next)) dIxA)) (sIf (tB1 (fIs (toO (fCall 3 (lCons (toV (f2 (fSlot 4) (fSlot 11) dIxA)) (lCons (toV (f2 (fSlot 4) (toO (f2 (fSlot 11) (svO (fC (.int 1))) (dAdd))) dIxA)) (lCons (fName 18) (lNil)))) F_is_row_for)) (fun d => !isBD false d))) (sRet (ofV (fC (.bool false)))) (sNx)))))))))))))))))) (sRet (ofV (fC (.bool true)))))
def F_law : List D → Option (D × Bool) := mk0 19 b_law
theorem sc_law : FnScope ["script", "w", "turn", "program", "run", "rows", "k", "many", "whole", "state", "row", "at", "gone", "frames", "cells", "told_many", "asked", "more", "bent"] ["script"] (defScope s_law) := ⟨rfl, rfl, rfl, by decide +kernel, rfl, by decide +kernel, by decide +kernel⟩
theorem fn_law {P : Program} {w : World} {K : PySem.W.Frag} {mg : Str → Option Value} {base : Heap} {f : Addr} {fd : FuncData} (M : Mg mg) (F : FunD K "law" "law" (defArgs s_law) (defBody s_law) (defScope s_law) [] [] f fd) (c__law_draws : Ow P w K mg base 1 "_law_draws" ["script", "many"] (sp0 K 2 F__law_draws)) (c__law_program : Ow P w K mg base 2 "_law_program" ["w"] (spW K 0 F__law_program)) (c_run_of : Ow P w K mg base 25 "run_of" ["program", "inputs", "most"] (sp0 K 3 F_run_of)) (c__law_next : Ow P w K mg base 1 "_law_next" ["w", "many"] (spW K 1 F__law_next)) (c__law_row : Ow P w K mg base 1 "_law_row" ["old", "new"] (sp0 K 2 F__law_row)) (c_undo_rows : Ow P w K mg base 2 "undo_rows" ["run"] (sp0 K 1 F_undo_rows)) (c_undo_row : Ow P w K mg base 1 "undo_row" ["old", "new"] (sp0 K 2 F_undo_row)) (c_undone : Ow P w K mg base 2 "undone" ["state", "row"] (sp0 K 2 F_undone)) (c_is_row_for : Ow P w K mg base 3 "is_row_for" ["old", "new", "row"] (sp0 K 3 F_is_row_for)) (c_size_of_row : Ow P w K mg base 1 "size_of_row" ["row"] (sp0 K 1 F_size_of_row)) (c__law_row_size : Ow P w K mg base 1 "_law_row_size" ["row"] (sp0 K 1 F__law_row_size)) (c_back_by : Ow P w K mg base 3 "back_by" ["state", "rows", "many"] (sp0 K 3 F_back_by)) (c__law_size : Ow P w K mg base 1 "_law_size" ["state"] (sp0 K 1 F__law_size)) (c_size_of_state : Ow P w K mg base 1 "size_of_state" ["state"] (sp0 K 1 F_size_of_state)) (c_sizes : Ow P w K mg base 3 "sizes" ["run"] (sp0 K 1 F_sizes)) (c_untouched : Ow P w K mg base 3 "untouched" ["run"] (sp0 K 1 F_untouched)) : FnOk P w K mg base CX0 26 f fd ["script"] (sp0 K 1 F_law) := by
  have hN := sc_law.nd
  refine ok_def0 F sc_law fun cdv A outer s H E hr => ?_
  have hc : (cxOf CX0 P w K mg base ["script", "w", "turn", "program", "run", "rows", "k", "many", "whole", "state", "row", "at", "gone", "frames", "cells", "told_many", "asked", "more", "bent"] "law" (defScope s_law) f cdv A outer s H E).nox.calm = true := rfl
  exact (fs_cons (fs_set (i := 1) hN (fe_disp (pps_cons fv_str (fv_e (fe_callO c__law_draws hr (fl_cons (fv_name (pv 0)) (fl_cons fv_int fl_nil)) (by first | decide | omega | (simp only [Nat.add_eq]; omega)))) (pps_cons fv_str fv_int pps_nil)) (fps_cons (fps_cons fps_nil)))) (fs_cons (fs_for PassesOwn.never hc (fi_range1 M.range (fa_cons (fo_v fv_int) fa_nil)) (fg_name hN) (fs_cons (fs_set (i := 3) hN (fe_callWO c__law_program hr (pv 1) fl_nil (by first | decide | omega | (simp only [Nat.add_eq]; omega)))) (fs_cons (fs_set (i := 4) hN (fe_callO c_run_of hr (fl_cons (fv_name (pv 3)) (fl_cons (fv_tup (fl_cons (fv_e (fe_callWO c__law_next hr (pv 1) (fl_cons fv_int fl_nil) (by first | decide | omega | (simp only [Nat.add_eq]; omega)))) fl_nil)) (fl_cons fv_int fl_nil))) (by first | decide | omega | (simp only [Nat.add_eq]; omega)))) (fs_cons (fs_if (PW.pt (fw_or (ft_cmp o2_ltI op_lt (fo_e (fe_callB on_len cr_lenA M.len (fa_cons (fo_name (pv 4)) fa_nil))) (fo_v fv_int) (nomark _)) (fw_or1 (ft_cmp o2_ne (op_neD hr.u64) (fo_e (fe_ix o2_ixA (ix_A hr.u1) (fo_e (fe_ix o2_ixA (ix_A hr.u1) (fo_name (pv 4)) (fo_e (fe_un o1_neg un_neg (fo_v fv_int))) (fun _ _ => rfl))) (fo_v fv_int) (fun _ _ => rfl))) (fo_v (fv_tup fl_nil)) (nomark _))))) (fs_one (fs_ret (fe_v fv_bl))) fs_nil) (fs_cons (fs_set (i := 5) hN (fe_lc (own := [("k", 6)]) hc hN (fi_range1 M.range (fa_cons (fo_e (fe_op o2_sub op_sub (fo_e (fe_callB on_len cr_lenA M.len (fa_cons (fo_name (pv 4)) fa_nil))) (fo_v fv_int))) fa_nil)) (blkOf (by kernel_rfl)) (by decide) (fun _ _ _ _ _ => (fg_name hN)) (fun _ _ _ _ _ => ft_none) (fun _ _ _ _ _ => (fv_e (fe_callO c__law_row hr (fl_cons (fv_e (fe_ix o2_ixA (ix_A hr.u1) (fo_name (pv 4)) (fo_name (pv 6)) (fun _ _ => rfl))) (fl_cons (fv_e (fe_ix o2_ixA (ix_A hr.u1) (fo_name (pv 4)) (fo_e (fe_op o2_add op_addD (fo_name (pv 6)) (fo_v fv_int))) (fun _ _ => rfl))) fl_nil)) (by first | decide | omega | (simp only [Nat.add_eq]; omega))))))) (fs_cons (fs_if (ft_cmp o2_ne (op_neD hr.u64) (fo_e (fe_callO c_undo_rows hr (fl_cons (fv_name (pv 4)) fl_nil) (by first | decide | omega | (simp only [Nat.add_eq]; omega)))) (fo_e (fe_callTy on_tuple cr_tupOf M.tuple (fa_cons (fo_name (pv 5)) fa_nil))) (nomark _)) (fs_one (fs_ret (fe_v fv_bl))) fs_nil) (fs_cons (fs_for PassesOwn.never hc (fi_range1 M.range (fa_cons (fo_e (fe_callB on_len cr_lenA M.len (fa_cons (fo_name (pv 5)) fa_nil))) fa_nil)) (fg_name hN) (fs_cons (fs_if (PW.pt (fw_or (ft_cmp o2_ne (op_neD hr.u64) (fo_e (fe_callO c_undo_row hr (fl_cons (fv_e (fe_ix o2_ixA (ix_A hr.u1) (fo_name (pv 4)) (fo_name (pv 6)) (fun _ _ => rfl))) (fl_cons (fv_e (fe_ix o2_ixA (ix_A hr.u1) (fo_name (pv 4)) (fo_e (fe_op o2_add op_addD (fo_name (pv 6)) (fo_v fv_int))) (fun _ _ => rfl))) fl_nil)) (by first | decide | omega | (simp only [Nat.add_eq]; omega)))) (fo_e (fe_ix o2_ixA (ix_A hr.u1) (fo_name (pv 5)) (fo_name (pv 6)) (fun _ _ => rfl))) (nomark _)) (fw_or1 (ft_cmp o2_ne (op_neD hr.u64) (fo_e (fe_callO c_undone hr (fl_cons (fv_e (fe_ix o2_ixA (ix_A hr.u1) (fo_name (pv 4)) (fo_e (fe_op o2_add op_addD (fo_name (pv 6)) (fo_v fv_int))) (fun _ _ => rfl))) (fl_cons (fv_e (fe_ix o2_ixA (ix_A hr.u1) (fo_name (pv 5)) (fo_name (pv 6)) (fun _ _ => rfl))) fl_nil)) (by first | decide | omega | (simp only [Nat.add_eq]; omega)))) (fo_e (fe_ix o2_ixA (ix_A hr.u1) (fo_name (pv 4)) (fo_name (pv 6)) (fun _ _ => rfl))) (nomark _))))) (fs_one (fs_ret (fe_v fv_bl))) fs_nil) (fs_one (fs_if (PW.pt (fw_or (ft_isNotB (fo_e (fe_callO c_is_row_for hr (fl_cons (fv_e (fe_ix o2_ixA (ix_A hr.u1) (fo_name (pv 4)) (fo_name (pv 6)) (fun _ _ => rfl))) (fl_cons (fv_e (fe_ix o2_ixA (ix_A hr.u1) (fo_name (pv 4)) (fo_e (fe_op o2_add op_addD (fo_name (pv 6)) (fo_v fv_int))) (fun _ _ => rfl))) (fl_cons (fv_e (fe_ix o2_ixA (ix_A hr.u1) (fo_name (pv 5)) (fo_name (pv 6)) (fun _ _ => rfl))) fl_nil))) (by first | decide | omega | (simp only [Nat.add_eq]; omega))))) (fw_or1 (ft_cmp o2_ne (op_neD hr.u64) (fo_e (fe_callO c_size_of_row hr (fl_cons (fv_e (fe_ix o2_ixA (ix_A hr.u1) (fo_name (pv 5)) (fo_name (pv 6)) (fun _ _ => rfl))) fl_nil) (by first | decide | omega | (simp only [Nat.add_eq]; omega)))) (fo_e (fe_callO c__law_row_size hr (fl_cons (fv_e (fe_ix o2_ixA (ix_A hr.u1) (fo_name (pv 5)) (fo_name (pv 6)) (fun _ _ => rfl))) fl_nil) (by first | decide | omega | (simp only [Nat.add_eq]; omega)))) (nomark _))))) (fs_one (fs_ret (fe_v fv_bl))) fs_nil)))) (fs_cons (fs_set (i := 7) hN (fe_callWO c__law_next hr (pv 1) (fl_cons (fv_e (fe_callB on_len cr_lenA M.len (fa_cons (fo_name (pv 4)) fa_nil))) fl_nil) (by first | decide | omega | (simp only [Nat.add_eq]; omega)))) (fs_cons (fs_if (ft_cmp o2_ne (op_neD hr.u64) (fo_e (fe_callO c_back_by hr (fl_cons (fv_e (fe_ix o2_ixA (ix_A hr.u1) (fo_name (pv 4)) (fo_e (fe_un o1_neg un_neg (fo_v fv_int))) (fun _ _ => rfl))) (fl_cons (fv_e (fe_callTy on_tuple cr_tupOf M.tuple (fa_cons (fo_name (pv 5)) fa_nil))) (fl_cons (fv_name (pv 7)) fl_nil))) (by first | decide | omega | (simp only [Nat.add_eq]; omega)))) (fo_e (fe_ix o2_ixA (ix_A hr.u1) (fo_name (pv 4)) (fo_e (fe_op o2_sub op_sub (fo_e (fe_op o2_sub op_sub (fo_e (fe_callB on_len cr_lenA M.len (fa_cons (fo_name (pv 4)) fa_nil))) (fo_v fv_int))) (fo_name (pv 7)))) (fun _ _ => rfl))) (nomark _)) (fs_one (fs_ret (fe_v fv_bl))) fs_nil) (fs_cons (fs_set (i := 8) hN (fe_v (fv_tup (fl_cons (fv_e (fe_callB on_sum (cr_sum hc) M.sum (fa_cons (fo_e (fe_lc (own := [("state", 9)]) hc hN (fi_val (fv_name (pv 4))) (blkOf (by kernel_rfl)) (by decide) (fun _ _ _ _ _ => (fg_name hN)) (fun _ _ _ _ _ => ft_none) (fun _ _ _ _ _ => (fv_e (fe_callO c__law_size hr (fl_cons (fv_name (pv 9)) fl_nil) (by first | decide | omega | (simp only [Nat.add_eq]; omega))))))) fa_nil))) (fl_cons (fv_e (fe_op o2_add op_addD (fo_e (fe_callO c__law_size hr (fl_cons (fv_e (fe_ix o2_ixA (ix_A hr.u1) (fo_name (pv 4)) (fo_e (fe_un o1_neg un_neg (fo_v fv_int))) (fun _ _ => rfl))) fl_nil) (by first | decide | omega | (simp only [Nat.add_eq]; omega)))) (fo_e (fe_callB on_sum (cr_sum hc) M.sum (fa_cons (fo_e (fe_lc (own := [("row", 10)]) hc hN (fi_val (fv_name (pv 5))) (blkOf (by kernel_rfl)) (by decide) (fun _ _ _ _ _ => (fg_name hN)) (fun _ _ _ _ _ => ft_none) (fun _ _ _ _ _ => (fv_e (fe_callO c__law_row_size hr (fl_cons (fv_name (pv 10)) fl_nil) (by first | decide | omega | (simp only [Nat.add_eq]; omega))))))) fa_nil))))) fl_nil))))) (fs_cons (fs_if (PW.pt (fw_or (ft_cmp o2_ne (op_neD hr.u64) (fo_e (fe_lc (own := [("state", 9)]) hc hN (fi_val (fv_name (pv 4))) (blkOf (by kernel_rfl)) (by decide) (fun _ _ _ _ _ => (fg_name hN)) (fun _ _ _ _ _ => (ft_one (ft_cmp o2_ne (op_neD hr.u64) (fo_e (fe_callO c_size_of_state hr (fl_cons (fv_name (pv 9)) fl_nil) (by first | decide | omega | (simp only [Nat.add_eq]; omega)))) (fo_e (fe_callO c__law_size hr (fl_cons (fv_name (pv 9)) fl_nil) (by first | decide | omega | (simp only [Nat.add_eq]; omega)))) (nomark _)))) (fun _ _ _ _ _ => (fv_name (pv 9))))) (fo_e (fe_lst fl_nil)) (nomark _)) (fw_or1 (ft_cmp o2_ne (op_neD hr.u64) (fo_e (fe_callO c_sizes hr (fl_cons (fv_name (pv 4)) fl_nil) (by first | decide | omega | (simp only [Nat.add_eq]; omega)))) (fo_name (pv 8)) (nomark _))))) (fs_one (fs_ret (fe_v fv_bl))) fs_nil) (fs_cons (fs_if (ft_cmp o2_ne (op_neD hr.u64) (fo_e (fe_callO c_untouched hr (fl_cons (fv_name (pv 4)) fl_nil) (by first | decide | omega | (simp only [Nat.add_eq]; omega)))) (fo_e (fe_callTy on_tuple cr_tupOf M.tuple (fa_cons (fo_e (fe_lc (own := [("k", 6)]) hc hN (fi_range1 M.range (fa_cons (fo_e (fe_callB on_len cr_lenA M.len (fa_cons (fo_name (pv 5)) fa_nil))) fa_nil)) (blkOf (by kernel_rfl)) (by decide) (fun _ _ _ _ _ => (fg_name hN)) (fun _ _ _ _ _ => (ft_one (ft_cmp o2_eq (op_eqD hr.u64) (fo_e (fe_ix o2_ixA (ix_A hr.u1) (fo_e (fe_ix o2_ixA (ix_A hr.u1) (fo_name (pv 5)) (fo_name (pv 6)) (fun _ _ => rfl))) (fo_v fv_int) (fun _ _ => rfl))) (fo_v (fv_tup fl_nil)) (nomark _)))) (fun _ _ _ _ _ => (fv_e (fe_op o2_add op_addD (fo_name (pv 6)) (fo_v fv_int)))))) fa_nil))) (nomark _)) (fs_one (fs_ret (fe_v fv_bl))) fs_nil) (fs_cons (fs_set (i := 11) hN (fe_callWO c__law_next hr (pv 1) (fl_cons (fv_e (fe_callB on_len cr_lenA M.len (fa_cons (fo_name (pv 5)) fa_nil))) fl_nil) (by first | decide | omega | (simp only [Nat.add_eq]; omega)))) (fs_cons (fs_asg (fv_e (fe_ix o2_ixA (ix_A hr.u1) (fo_name (pv 5)) (fo_name (pv 11)) (fun _ _ => rfl))) (fg_tup hc (fgs_cons (fg_name hN) (fgs_cons (fg_name hN) (fgs_cons (fg_name hN) (fgs_cons (fg_name hN) (fgs_cons (fg_name hN) fgs_nil))))))) (fs_cons (fs_set (i := 17) hN (fe_op o2_add op_addD (fo_name (pv 13)) (fo_v (fv_tup (fl_cons (fv_tup (fl_cons fv_str (fl_cons fv_int (fl_cons (fv_tup fl_nil) (fl_cons fv_non fl_nil))))) fl_nil))))) (fs_cons (fs_set (i := 18) hN (fe_ix o2_ixA (ix_A hr.u1) (fo_e (fe_lst (fl_cons (fv_tup (fl_cons (fv_name (pv 12)) (fl_cons (fv_name (pv 13)) (fl_cons (fv_e (fe_op o2_add op_addD (fo_name (pv 14)) (fo_v (fv_tup (fl_cons (fv_tup (fl_cons fv_int (fl_cons fv_int fl_nil))) fl_nil))))) (fl_cons (fv_name (pv 15)) (fl_cons (fv_name (pv 16)) fl_nil)))))) (fl_cons (fv_tup (fl_cons (fv_name (pv 12)) (fl_cons (fv_name (pv 13)) (fl_cons (fv_name (pv 14)) (fl_cons (fv_name (pv 15)) (fl_cons (fv_e (fe_op o2_add op_addD (fo_name (pv 16)) (fo_v fv_int))) fl_nil)))))) (fl_cons (fv_tup (fl_cons (fv_name (pv 12)) (fl_cons (fv_name (pv 17)) (fl_cons (fv_name (pv 14)) (fl_cons (fv_name (pv 15)) (fl_cons (fv_name (pv 16)) fl_nil)))))) fl_nil))))) (fo_e (fe_callWO c__law_next hr (pv 1) (fl_cons fv_int fl_nil) (by first | decide | omega | (simp only [Nat.add_eq]; omega)))) (fun _ _ => rfl))) (fs_one (fs_if (ft_isNotB (fo_e (fe_callO c_is_row_for hr (fl_cons (fv_e (fe_ix o2_ixA (ix_A hr.u1) (fo_name (pv 4)) (fo_name (pv 11)) (fun _ _ => rfl))) (fl_cons (fv_e (fe_ix o2_ixA (ix_A hr.u1) (fo_name (pv 4)) (fo_e (fe_op o2_add op_addD (fo_name (pv 11)) (fo_v fv_int))) (fun _ _ => rfl))) (fl_cons (fv_name (pv 18)) fl_nil))) (by first | decide | omega | (simp only [Nat.add_eq]; omega))))) (fs_one (fs_ret (fe_v fv_bl))) fs_nil)))))))))))))))))) (fs_one (fs_ret (fe_v fv_bl)))))
end Hd
/-! Px: plain laws of the functions that the bodies are. -/
namespace Fx
open PySem PySem.Spec L2
/-! ### what a value that is there keeps -/
def Wp {α : Type} (x : Option α) (Q : α → Prop) : Prop := ∃ y, x = some y ∧ Q y
@[simp] theorem wp_some {α : Type} {y : α} {Q : α → Prop} : Wp (some y) Q ↔ Q y := ⟨fun ⟨_, e, q⟩ => by cases e; exact q, fun q => ⟨y, rfl, q⟩⟩
@[simp] theorem wp_none {α : Type} {Q : α → Prop} : Wp (none : Option α) Q ↔ False := ⟨fun ⟨_, e, _⟩ => (by cases e), False.elim⟩
@[simp] theorem wp_bind {α β : Type} {x : Option α} {f : α → Option β} {Q : β → Prop} : Wp (x.bind f) Q ↔ Wp x fun y => Wp (f y) Q :=
  ⟨fun ⟨z, e, q⟩ => let ⟨y, e1, e2⟩ := Option.bind_eq_some_iff.mp e; ⟨y, e1, z, e2, q⟩, fun ⟨y, e1, z, e2, q⟩ => ⟨z, Option.bind_eq_some_iff.mpr ⟨y, e1, e2⟩, q⟩⟩
@[simp] theorem wp_map {α β : Type} {x : Option α} {f : α → β} {Q : β → Prop} : Wp (x.map f) Q ↔ Wp x fun y => Q (f y) :=
  ⟨fun ⟨z, e, q⟩ => by obtain ⟨y, e1, e2⟩ := Option.map_eq_some_iff.mp e; subst e2; exact ⟨y, e1, q⟩, fun ⟨y, e1, q⟩ => ⟨f y, by rw [e1]; rfl, q⟩⟩
theorem wp_ite {α : Type} {c : Prop} [Decidable c] {x y : Option α} {Q : α → Prop} : Wp (if c then x else y) Q ↔ ((c → Wp x Q) ∧ (¬ c → Wp y Q)) := by
  by_cases h : c
  · rw [if_pos h]; exact ⟨fun q => ⟨fun _ => q, fun n => absurd h n⟩, fun q => q.1 h⟩
  · rw [if_neg h]; exact ⟨fun q => ⟨fun n => absurd n h, fun _ => q⟩, fun q => q.2 h⟩
theorem wp_mono {α : Type} {x : Option α} {Q R : α → Prop} (h : Wp x Q) (k : ∀ y, Q y → R y) : Wp x R := let ⟨y, e, q⟩ := h; ⟨y, e, k y q⟩
theorem for_inv {s : Gv} {b : Sv} (I : List D → En → Prop) {Q : Out × En → Prop}
    (step : ∀ d r en, I (d :: r) en → Wp (s d en) fun e1 => Wp (b e1) fun y => match y.1 with
      | .nx => I r y.2
      | .ct => I r y.2
      | .bk => Q (.nx, y.2)
      | .rt d c => Q (.rt d c, y.2)) (fin : ∀ en, I [] en → Q (.nx, en)) : ∀ (ds : List D) (en : En), I ds en → Wp (forL s b ds en) Q
  | [], en, h => ⟨_, rfl, fin en h⟩
  | d :: ds, en, h => by
    obtain ⟨e1, p1, y, p2, q⟩ := step d ds en h
    have ih := fun en h => for_inv I step fin ds en h
    obtain ⟨o, e2⟩ := y
    refine wp_bind.mpr ⟨e1, p1, wp_bind.mpr ⟨_, p2, ?_⟩⟩
    cases o with
    | nx => exact ih _ q
    | ct => exact ih _ q
    | bk => exact ⟨_, rfl, q⟩
    | rt d c => exact ⟨_, rfl, q⟩
theorem while_inv {t : Tv} {b : Sv} (I : Nat → En → Prop) {Q : Out × En → Prop}
    (step : ∀ n en, I n en → Wp (t en) fun x => if x.1 = true then ∃ m, n = m + 1 ∧ Wp (b x.2) fun y => match y.1 with
      | .nx => I m y.2
      | .ct => I m y.2
      | .bk => Q (.nx, y.2)
      | .rt d c => Q (.rt d c, y.2)
      else Q (.nx, x.2)) : ∀ (n : Nat) (en : En) (f : Nat), I n en → n < f → Wp (whileL t b f en) Q := by
  intro n
  induction n with
  | zero =>
    intro en f h hf
    obtain ⟨f, rfl⟩ : ∃ g, f = g + 1 := ⟨f - 1, by omega⟩
    obtain ⟨x, p1, q⟩ := step 0 en h
    refine wp_bind.mpr ⟨x, p1, ?_⟩
    by_cases hx : x.1 = true
    · rw [if_pos hx] at q
      obtain ⟨m, e, _⟩ := q
      cases e
    · rw [if_neg hx] at q ⊢
      exact ⟨_, rfl, q⟩
  | succ n ih =>
    intro en f h hf
    obtain ⟨f, rfl⟩ : ∃ g, f = g + 1 := ⟨f - 1, by omega⟩
    obtain ⟨x, p1, q⟩ := step (n + 1) en h
    refine wp_bind.mpr ⟨x, p1, ?_⟩
    by_cases hx : x.1 = true
    · rw [if_pos hx] at q ⊢
      obtain ⟨m, e, y, p2, q⟩ := q
      cases e
      refine wp_bind.mpr ⟨y, p2, ?_⟩
      obtain ⟨o, e2⟩ := y
      cases o with
      | nx => exact ih _ f q (by omega)
      | ct => exact ih _ f q (by omega)
      | bk => exact ⟨_, rfl, q⟩
      | rt d c => exact ⟨_, rfl, q⟩
    · rw [if_neg hx] at q ⊢
      exact ⟨_, rfl, q⟩
/-! ### a slot that may hold what it will, but nothing lent -/
def jk (x : Option (D × Bool)) : Option (D × Fl) := x.map fun p => (p.1, flag p.2)
theorem jk_none : (none : Option (D × Fl)) = jk none := rfl
theorem jk_sh (d : D) : (some (d, Fl.sh) : Option (D × Fl)) = jk (some (d, false)) := rfl
theorem jk_own (d : D) : (some (d, Fl.own) : Option (D × Fl)) = jk (some (d, true)) := rfl
theorem free1_jk {en : En} {i : Nat} {x : Option (D × Bool)} (h : en[i]? = some (jk x)) : free1 en i = true := by
  unfold free1
  rw [h]
  cases x with
  | none => rfl
  | some p =>
    obtain ⟨d, b⟩ := p
    cases b <;> rfl
@[simp] theorem free_cons (x : Option (D × Fl)) (en : En) (i : Nat) : free1 (x :: en) (i + 1) = free1 en i := by
  unfold free1
  rw [List.getElem?_cons_succ]
@[simp] theorem free_jk (x : Option (D × Bool)) (en : En) : free1 (jk x :: en) 0 = true := free1_jk (x := x) rfl
@[simp] theorem free_sh (d : D) (en : En) : free1 (some (d, Fl.sh) :: en) 0 = true := rfl
@[simp] theorem free_own (d : D) (en : En) : free1 (some (d, Fl.own) :: en) 0 = true := rfl
@[simp] theorem free_none (en : En) : free1 (none :: en) 0 = true := rfl
@[simp] theorem flag_t : flag true = .own := rfl
@[simp] theorem flag_f : flag false = .sh := rfl
@[simp] theorem e_sNx  (x : Option (D × Fl)) (en : En) : sNx (x :: en) = some (.nx, (x :: en)) := id rfl
theorem e_sSeq (a b : Sv) (x : Option (D × Fl)) (en : En) : sSeq a b (x :: en) = (a (x :: en)).bind fun z => match z.1 with
  | .nx => b z.2
  | o => some (o, z.2) := id rfl
@[simp] theorem e_sExpr (f : Ev) (x : Option (D × Fl)) (en : En) : sExpr f (x :: en) = (f (x :: en)).map fun z => (.nx, z.2.2) := id rfl
@[simp] theorem e_sRet (f : Ev) (x : Option (D × Fl)) (en : En) : sRet f (x :: en) = (f (x :: en)).map fun z => (.rt z.1 z.2.1, z.2.2) := id rfl
@[simp] theorem e_sRetN  (x : Option (D × Fl)) (en : En) : sRetN (x :: en) = some (.rt .none false, (x :: en)) := id rfl
@[simp] theorem e_sBreak  (x : Option (D × Fl)) (en : En) : sBreak (x :: en) = some (.bk, (x :: en)) := id rfl
@[simp] theorem e_sCont  (x : Option (D × Fl)) (en : En) : sCont (x :: en) = some (.ct, (x :: en)) := id rfl
@[simp] theorem e_sIf (t : Tv) (a b : Sv) (x : Option (D × Fl)) (en : En) : sIf t a b (x :: en) = (t (x :: en)).bind fun z => if z.1 = true then a z.2 else b z.2 := id rfl
@[simp] theorem e_sSet (i : Nat) (f : Ev) (x : Option (D × Fl)) (en : En) : sSet i f (x :: en) = (f (x :: en)).bind fun z => if free1 z.2.2 i = true then some (.nx, z.2.2.set i (some (z.1, flag z.2.1))) else none := id rfl
@[simp] theorem e_sAsg (f : Vv) (s : Gv) (x : Option (D × Fl)) (en : En) : sAsg f s (x :: en) = (f (x :: en)).bind fun z => (s z.1 z.2).map fun e' => (.nx, e') := id rfl
theorem e_sFor (it : Lv) (s : Gv) (b : Sv) (x : Option (D × Fl)) (en : En) : sFor it s b (x :: en) = (it (x :: en)).bind fun z => forL s b z.1 z.2 := id rfl
@[simp] theorem e_sParN (is : List Nat) (l : Mv) (x : Option (D × Fl)) (en : En) : sParN is l (x :: en) = (l (x :: en)).bind fun z => (putAll is z.1 z.2).map fun e' => (.nx, e') := id rfl
@[simp] theorem e_f1 (p : Ov) (g : D → Option (D × Bool)) (x : Option (D × Fl)) (en : En) : f1 p g (x :: en) = (p (x :: en)).bind fun z => (z.1.late z.2).bind fun d => (g d).map fun y => (y.1, y.2, z.2) := id rfl
@[simp] theorem e_f2 (p q : Ov) (g : D → D → Option (D × Bool)) (x : Option (D × Fl)) (en : En) : f2 p q g (x :: en) = (p (x :: en)).bind fun z => (q z.2).bind fun y => (z.1.late y.2).bind fun d => (y.1.late y.2).bind fun e => (g d e).map fun w => (w.1, w.2, y.2) := id rfl
@[simp] theorem e_fN (a : Av) (g : List D → Option (D × Bool)) (x : Option (D × Fl)) (en : En) : fN a g (x :: en) = (a (x :: en)).bind fun z => (lates z.2 z.1).bind fun ds => (g ds).map fun w => (w.1, w.2, z.2) := id rfl
@[simp] theorem e_fC (d : D) (x : Option (D × Fl)) (en : En) : fC d (x :: en) = some (d, (x :: en)) := id rfl
@[simp] theorem e_toV (f : Ev) (x : Option (D × Fl)) (en : En) : toV f (x :: en) = (f (x :: en)).map fun z => (z.1, z.2.2) := by
  cases h : f (x :: en) <;> simp [toV, h]
@[simp] theorem e_ofV (f : Vv) (x : Option (D × Fl)) (en : En) : ofV f (x :: en) = (f (x :: en)).map fun z => (z.1, false, z.2) := by
  cases h : f (x :: en) <;> simp [ofV, h]
@[simp] theorem e_toO (f : Ev) (x : Option (D × Fl)) (en : En) : toO f (x :: en) = (f (x :: en)).map fun z => (.tv z.1, z.2.2) := by
  cases h : f (x :: en) <;> simp [toO, h]
@[simp] theorem e_svO (f : Vv) (x : Option (D × Fl)) (en : En) : svO f (x :: en) = (f (x :: en)).map fun z => (.sv z.1, z.2) := by
  cases h : f (x :: en) <;> simp [svO, h]
@[simp] theorem e_fName (i : Nat) (x : Option (D × Fl)) (en : En) : fName i (x :: en) = match (x :: en)[i]? with
  | some (some (d, .sh)) => some (d, (x :: en))
  | some (some (d, .own)) => some (d, (x :: en).set i (some (d, .sh)))
  | _ => none := id rfl
@[simp] theorem e_fSlot (i : Nat) (x : Option (D × Fl)) (en : En) : fSlot i (x :: en) = (peek (x :: en) i).map fun _ => (.slot i, (x :: en)) := by
  unfold fSlot
  cases h : peek (x :: en) i <;> simp
@[simp] theorem e_aNil  (x : Option (D × Fl)) (en : En) : aNil (x :: en) = some ([], (x :: en)) := id rfl
@[simp] theorem e_aCons (p : Ov) (r : Av) (x : Option (D × Fl)) (en : En) : aCons p r (x :: en) = (p (x :: en)).bind fun z => (r z.2).map fun y => (z.1 :: y.1, y.2) := by
  unfold aCons
  cases h : p (x :: en) with
  | none => rfl
  | some z =>
    obtain ⟨z1, z2⟩ := z
    cases h2 : r z2 <;> simp [h2]
@[simp] theorem e_lNil  (x : Option (D × Fl)) (en : En) : lNil (x :: en) = some ([], (x :: en)) := id rfl
@[simp] theorem e_lCons (p : Vv) (r : Lv) (x : Option (D × Fl)) (en : En) : lCons p r (x :: en) = (p (x :: en)).bind fun z => (r z.2).map fun y => (z.1 :: y.1, y.2) := by
  unfold lCons
  cases h : p (x :: en) with
  | none => rfl
  | some z =>
    obtain ⟨z1, z2⟩ := z
    cases h2 : r z2 <;> simp [h2]
@[simp] theorem e_mNil  (x : Option (D × Fl)) (en : En) : mNil (x :: en) = some ([], (x :: en)) := id rfl
@[simp] theorem e_mCons (p : Ev) (r : Mv) (x : Option (D × Fl)) (en : En) : mCons p r (x :: en) = (p (x :: en)).bind fun z => (r z.2.2).map fun y => ((z.1, z.2.1) :: y.1, y.2) := id rfl
@[simp] theorem e_fTup (l : Lv) (x : Option (D × Fl)) (en : En) : fTup l (x :: en) = (l (x :: en)).bind fun z => if z.1.length ≤ sizeLine then some (.tuple z.1, z.2) else none := by
  cases h : l (x :: en) <;> simp [fTup, h]
@[simp] theorem e_fLst (l : Lv) (x : Option (D × Fl)) (en : En) : fLst l (x :: en) = (l (x :: en)).bind fun z => if z.1.length ≤ sizeLine then some (.list z.1, true, z.2) else none := by
  cases h : l (x :: en) <;> simp [fLst, h]
@[simp] theorem e_fDisp (l : Lv) (x : Option (D × Fl)) (en : En) : fDisp l (x :: en) = (l (x :: en)).bind fun z => (pairsFlat z.1).bind fun ks => if ks.length ≤ 15 then some (.dict (mergeD [] ks), true, z.2) else none := id rfl
@[simp] theorem e_fIs (p : Ov) (g : D → Bool) (x : Option (D × Fl)) (en : En) : fIs p g (x :: en) = f1 p (fun d => some (.bool (g d), false)) (x :: en) := id rfl
@[simp] theorem e_fIsi (p : Ov) (T : String) (x : Option (D × Fl)) (en : En) : fIsi p T (x :: en) = f1 p (fun d => (kitB (tyD d) T).map fun b => (.bool b, false)) (x :: en) := id rfl
@[simp] theorem e_fAnd (f g : Ev) (x : Option (D × Fl)) (en : En) : fAnd f g (x :: en) = (f (x :: en)).bind fun z => match z.1 with
  | .bool c => if c = true then g z.2.2 else some (.bool false, false, z.2.2)
  | _ => none := id rfl
@[simp] theorem e_fOr (f g : Ev) (x : Option (D × Fl)) (en : En) : fOr f g (x :: en) = (f (x :: en)).bind fun z => match z.1 with
  | .bool c => if c = true then some (.bool true, false, z.2.2) else g z.2.2
  | _ => none := id rfl
@[simp] theorem e_fNot (f : Ev) (x : Option (D × Fl)) (en : En) : fNot f (x :: en) = (f (x :: en)).bind fun z => match z.1 with
  | .bool c => some (.bool (!c), false, z.2.2)
  | _ => none := id rfl
@[simp] theorem e_fIf (t : Tv) (f g : Ev) (x : Option (D × Fl)) (en : En) : fIf t f g (x :: en) = (t (x :: en)).bind fun z => if z.1 = true then f z.2 else g z.2 := id rfl
@[simp] theorem e_tB1 (f : Ev) (x : Option (D × Fl)) (en : En) : tB1 f (x :: en) = (f (x :: en)).bind fun z => match z.1 with
  | .bool b => some (b, z.2.2)
  | _ => none := id rfl
@[simp] theorem e_tNotF (f : Tv) (x : Option (D × Fl)) (en : En) : tNotF f (x :: en) = (f (x :: en)).map fun z => (!z.1, z.2) := id rfl
@[simp] theorem e_tAndF (f g : Tv) (x : Option (D × Fl)) (en : En) : tAndF f g (x :: en) = (f (x :: en)).bind fun z => if z.1 = true then g z.2 else some (false, z.2) := id rfl
@[simp] theorem e_tOrF (f g : Tv) (x : Option (D × Fl)) (en : En) : tOrF f g (x :: en) = (f (x :: en)).bind fun z => if z.1 = true then some (true, z.2) else g z.2 := id rfl
@[simp] theorem e_tIfF (c f g : Tv) (x : Option (D × Fl)) (en : En) : tIfF c f g (x :: en) = (c (x :: en)).bind fun z => if z.1 = true then f z.2 else g z.2 := id rfl
@[simp] theorem e_tTrue  (x : Option (D × Fl)) (en : En) : tTrue (x :: en) = some (true, (x :: en)) := id rfl
theorem e_itV (f : Vv) (x : Option (D × Fl)) (en : En) : itV f (x :: en) = (f (x :: en)).bind fun z => (seqD z.1).map fun ds => (ds, z.2) := id rfl
theorem e_itR (a : Av) (g : List D → Option (List D)) (x : Option (D × Fl)) (en : En) : itR a g (x :: en) = (a (x :: en)).bind fun z => (lates z.2 z.1).bind fun ds => (g ds).map fun r => (r, z.2) := id rfl
@[simp] theorem e_fCall (np : Nat) (l : Lv) (F : List D → Option (D × Bool)) (x : Option (D × Fl)) (en : En) : fCall np l F (x :: en) = (l (x :: en)).bind fun z => if z.1.length = np then (F z.1).map fun y => (y.1, y.2, z.2) else none := id rfl
@[simp] theorem e_gN (i : Nat) (d : D) (x : Option (D × Fl)) (en : En) : gN i d (x :: en) = if free1 (x :: en) i = true then some ((x :: en).set i (some (d, .sh))) else none := id rfl
@[simp] theorem e_pNone  (x : Option (D × Fl)) (en : En) : pNone (x :: en) = some (none, (x :: en)) := id rfl
@[simp] theorem e_pInt (p : Ov) (x : Option (D × Fl)) (en : En) : pInt p (x :: en) = (p (x :: en)).bind fun z => (z.1.late z.2).bind fun d => match d with
  | .int i => some (some i, z.2)
  | _ => none := id rfl
@[simp] theorem e_fSl (p : Ov) (l h : Pv) (g : D → Option Int → Option Int → Option (D × Bool)) (x : Option (D × Fl)) (en : En) : fSl p l h g (x :: en) = (p (x :: en)).bind fun z => (l z.2).bind fun y => (h y.2).bind fun w => (z.1.late w.2).bind fun d => (g d y.1 w.1).map fun u => (u.1, u.2, w.2) := id rfl
@[simp] theorem e_fLr1 (f : Vv) (x : Option (D × Fl)) (en : En) : fLr1 f (x :: en) = (f (x :: en)).bind fun z => match z.1 with
  | .int j => if rgOk 0 j = true then some (.list (rgD 0 j), true, z.2) else none
  | _ => none := id rfl
@[simp] theorem e_fLr2 (f g : Vv) (x : Option (D × Fl)) (en : En) : fLr2 f g (x :: en) = (f (x :: en)).bind fun z => (g z.2).bind fun y => match z.1, y.1 with
  | .int i, .int j => if rgOk i j = true then some (.list (rgD i j), true, y.2) else none
  | _, _ => none := id rfl
@[simp] theorem isI_ii (g : Int → Int → Option D) (i j : Int) : isI g (.int i) (.int j) = (g i j).map fun z => (z, false) := id rfl
@[simp] theorem dAdd_ii (i j : Int) : dAdd (.int i) (.int j) = some (.int (i + j), false) := id rfl
@[simp] theorem dAdd_ll (a b : List D) : dAdd (.list a) (.list b) = if a.length + b.length ≤ sizeLine then some (.list (a ++ b), true) else none := id rfl
@[simp] theorem dAdd_tt (a b : List D) : dAdd (.tuple a) (.tuple b) = if a.length + b.length ≤ sizeLine then some (.tuple (a ++ b), false) else none := id rfl
@[simp] theorem dInt_i (i : Int) : dInt [.int i] = some (.int i, false) := id rfl
@[simp] theorem dAbs_i (i : Int) : dAbs [.int i] = some (.int (if i < 0 then -i else i), false) := id rfl
@[simp] theorem dNeg_i (i : Int) : dNeg (.int i) = some (.int (-i), false) := id rfl
@[simp] theorem dLen_l (ds : List D) : dLen [.list ds] = some (.int (ds.length : Nat), false) := id rfl
@[simp] theorem dLen_t (ds : List D) : dLen [.tuple ds] = some (.int (ds.length : Nat), false) := id rfl
@[simp] theorem dList_l (ds : List D) : dList [.list ds] = some (.list ds, true) := id rfl
@[simp] theorem dList_t (ds : List D) : dList [.tuple ds] = some (.list ds, true) := id rfl
@[simp] theorem dTuple_l (ds : List D) : dTuple [.list ds] = some (.tuple ds, false) := id rfl
@[simp] theorem dTuple_t (ds : List D) : dTuple [.tuple ds] = some (.tuple ds, false) := id rfl
@[simp] theorem dIxA_l (ds : List D) (i : Int) : dIxA (.list ds) (.int i) = (atI ds i).map fun z => (z, false) := id rfl
@[simp] theorem dIxA_t (ds : List D) (i : Int) : dIxA (.tuple ds) (.int i) = (atI ds i).map fun z => (z, false) := id rfl
@[simp] theorem dIxA_d (es : List (D × D)) (k : D) : dIxA (.dict es) k = (keyOf k).bind fun k => (Fx.dictGet es k).map fun d => (d, false) := by cases k <;> rfl
@[simp] theorem keyOf_i (i : Int) : keyOf (.int i) = some (.inl i) := id rfl
@[simp] theorem keyOf_s (z : Str) : keyOf (.str z) = some (.inr z) := id rfl
@[simp] theorem mAppend_l (ds : List D) (x : D) : mAppend (.list ds) [x] = if ds.length < sizeLine then some (.none, false, .list (ds ++ [x])) else none := id rfl
@[simp] theorem dSetA_d (es : List (D × D)) (k d : D) : dSetA (.dict es) k d = (keyOf k).bind fun k => if es.length < sizeLine then some (.dict (Fx.dictPut es k d)) else none := by cases k <;> rfl
@[simp] theorem dGetA_d (es : List (D × D)) (k : D) : dGetA (.dict es) k = (keyOf k).bind fun k => Fx.dictGet es k := id rfl
@[simp] theorem zAdd_ii (i j : Int) : zAdd (.int i) (.int j) = some (.int (i + j)) := id rfl
@[simp] theorem zSub_ii (i j : Int) : zSub (.int i) (.int j) = some (.int (i - j)) := id rfl
@[simp] theorem iSub_e (i j : Int) : iSub i j = some (.int (i - j)) := id rfl
@[simp] theorem iLt_e (i j : Int) : iLt i j = some (.bool (decide (i < j))) := id rfl
@[simp] theorem iLe_e (i j : Int) : iLe i j = some (.bool (decide (i ≤ j))) := id rfl
@[simp] theorem iGt_e (i j : Int) : iGt i j = some (.bool (decide (j < i))) := id rfl
@[simp] theorem iGe_e (i j : Int) : iGe i j = some (.bool (decide (j ≤ i))) := id rfl
@[simp] theorem iMod_e (i j : Int) : iMod i j = if 0 < j then some (.int (i % j)) else none := id rfl
@[simp] theorem iMul_e (i j : Int) : iMul i j = if i.natAbs < 18446744073709551616 ∨ j.natAbs < 18446744073709551616 then some (.int (i * j)) else none := id rfl
@[simp] theorem iDiv_e (i j : Int) : iDiv i j = if 0 < j ∧ j < 1073741824 then some (.int (i / j)) else none := id rfl
@[simp] theorem pow18 : iPow 10 18 = some (.int 1000000000000000000) := by
  unfold iPow
  rw [if_pos (by decide)]
  rfl
@[simp] theorem seqD_l (ds : List D) : seqD (.list ds) = some ds := id rfl
@[simp] theorem seqD_t (ds : List D) : seqD (.tuple ds) = some ds := id rfl
theorem inLine_le {i : Int} (h0 : 0 ≤ i) (h1 : i ≤ 1000000000) : inLine i = true := by
  unfold inLine
  rw [Bool.and_eq_true, decide_eq_true_eq, decide_eq_true_eq]
  constructor <;> omega
theorem range1D_e (j : Int) : range1D [.int j] = if inLine j = true then some (rngD 0 1 j.toNat) else none := id rfl
theorem range2D_e (i j : Int) : range2D [.int i, .int j] = if (inLine i && inLine j) = true then some (rngD i 1 (j - i).toNat) else none := id rfl
theorem range1_nat {n : Nat} (h : n ≤ 1000000000) : range1D [.int (n : Int)] = some (rngD 0 1 n) := by
  rw [range1D_e, if_pos (inLine_le (by omega) (by omega)), Int.toNat_natCast]
@[simp] theorem range1_60 : range1D [.int 60] = some (rngD 0 1 60) := range1_nat (n := 60) (by decide)
@[simp] theorem late_sv (en : En) (d : D) : (Hd.sv d).late en = some d := id rfl
@[simp] theorem late_tv (en : En) (d : D) : (Hd.tv d).late en = some d := id rfl
@[simp] theorem late_slot (en : En) (i : Nat) : (Hd.slot i).late en = peek en i := id rfl
@[simp] theorem peek_0 (d : D) (f : Fl) (en : En) : peek (some (d, f) :: en) 0 = some d := id rfl
@[simp] theorem peek_s (x : Option (D × Fl)) (en : En) (i : Nat) : peek (x :: en) (i + 1) = peek en i := by
  unfold peek
  rw [List.getElem?_cons_succ]
@[simp] theorem lates_nil (en : En) : lates en [] = some [] := id rfl
@[simp] theorem lates_cons (en : En) (h : Hd) (hs : List Hd) : lates en (h :: hs) = (h.late en).bind fun d => (lates en hs).map fun ds => d :: ds := by
  show (match h.late en, lates en hs with
    | some d, some ds => some (d :: ds)
    | _, _ => none) = _
  cases h.late en <;> cases lates en hs <;> rfl
@[simp] theorem isOwn_0 (d : D) (en : En) : isOwn (some (d, .own) :: en) 0 = true := id rfl
@[simp] theorem isOwn_0l (d : D) (en : En) : isOwn (some (d, .lent) :: en) 0 = true := id rfl
@[simp] theorem isOwn_s (x : Option (D × Fl)) (en : En) (i : Nat) : isOwn (x :: en) (i + 1) = isOwn en i := by
  unfold isOwn
  rw [List.getElem?_cons_succ]
@[simp] theorem isLst_l (ds : List D) : isLst (.list ds) = true := id rfl
@[simp] theorem isDct_l (ds : List (D × D)) : isDct (.dict ds) = true := id rfl
@[simp] theorem e_fMut (i : Nat) (c : D → Bool) (l : Lv) (g : D → List D → Option (D × Bool × D)) (x : Option (D × Fl)) (en : En) : fMut i c l g (x :: en) = if isOwn (x :: en) i = true then (peek (x :: en) i).bind fun d0 => if c d0 = true then (l (x :: en)).bind fun z => match z.2[i]? with
  | some (some (d, f)) => if f = .sh then none else (g d z.1).map fun y => (y.1, y.2.1, z.2.set i (some (y.2.2, f)))
  | _ => none
  else none else none := id rfl
@[simp] theorem e_sAugN (i : Nat) (f : Vv) (h : D → D → Option D) (x : Option (D × Fl)) (en : En) : sAugN i f h (x :: en) = match (x :: en)[i]? with
  | some (some (d0, .sh)) => (f (x :: en)).bind fun z => (h d0 z.1).bind fun w => if free1 z.2 i = true then some (.nx, z.2.set i (some (w, .sh))) else none
  | _ => none := id rfl
@[simp] theorem e_sAugS (i : Nat) (f g : Vv) (h : D → D → Option D) (x : Option (D × Fl)) (en : En) : sAugS i f g h (x :: en) = if isOwn (x :: en) i = true then (f (x :: en)).bind fun z => (peek z.2 i).bind fun dw => (dGetA dw z.1).bind fun d0 => (g z.2).bind fun y => match y.2[i]? with
  | some (some (dw, fl)) => if fl = .sh then none else (h d0 y.1).bind fun w => (dSetA dw z.1 w).map fun u => (.nx, y.2.set i (some (u, fl)))
  | _ => none
  else none := id rfl
@[simp] theorem e_fCallW (np j : Nat) (l : Lv) (F : D → List D → Option (D × Bool × D)) (x : Option (D × Fl)) (en : En) : fCallW np j l F (x :: en) = if isOwn (x :: en) j = true then (l (x :: en)).bind fun z => match z.2[j]? with
  | some (some (dw, f)) => if f = .sh then none else if z.1.length = np then (F dw z.1).map fun y => (y.1, y.2.1, z.2.set j (some (y.2.2, f))) else none
  | _ => none
  else none := id rfl
@[simp] theorem e_sRetX (i : Nat) (x : Option (D × Fl)) (en : En) : sRetX i (x :: en) = match (x :: en)[i]? with
  | some (some (d, .sh)) => some (.rt d false, (x :: en))
  | some (some (d, .own)) => some (.rt d true, (x :: en).set i none)
  | _ => none := id rfl
@[simp] theorem e_gSubD (i : Nat) (f : Vv) (d : D) (x : Option (D × Fl)) (en : En) : gSubD i f d (x :: en) = if isOwn (x :: en) i = true then (f (x :: en)).bind fun z => match z.2[i]? with
  | some (some (dw, fl)) => if fl = .sh then none else (dSetA dw z.1 d).map fun w => z.2.set i (some (w, fl))
  | _ => none
  else none := id rfl
@[simp] theorem putAll_nil (en : En) : putAll [] [] en = some en := id rfl
@[simp] theorem putAll_cons (i : Nat) (is : List Nat) (d : D) (b : Bool) (ds : List (D × Bool)) (en : En) : putAll (i :: is) ((d, b) :: ds) en = if free1 en i = true then putAll is ds (en.set i (some (d, flag b))) else none := id rfl
@[simp] theorem gT_t (n : Nat) (r : List D → En → Option En) (ds : List D) (en : En) : gT n r (.tuple ds) en = if ds.length = n then r ds en else none := id rfl
@[simp] theorem gsNil_e (en : En) : gsNil [] en = some en := id rfl
@[simp] theorem gsCons_e (s : Gv) (r : List D → En → Option En) (d : D) (ds : List D) (en : En) : gsCons s r (d :: ds) en = (s d en).bind (r ds) := id rfl
@[simp] theorem mk0_e (n : Nat) (g : Sv) (ds : List D) : mk0 n g ds = (g (ds.map (fun d => some (d, Fl.sh)) ++ List.replicate (n - ds.length) none)).bind fun x => match x.1 with
  | .rt d b => some (d, b)
  | .nx => some (.none, false)
  | _ => none := id rfl
@[simp] theorem mkW_e (n : Nat) (g : Sv) (dw : D) (ds : List D) : mkW n g dw ds = (g (some (dw, Fl.lent) :: (ds.map (fun d => some (d, Fl.sh)) ++ List.replicate (n - 1 - ds.length) none))).bind fun x => (lentAt x.2 0).bind fun dw' => match x.1 with
  | .rt d b => some (d, b, dw')
  | .nx => some (.none, false, dw')
  | _ => none := id rfl
@[simp] theorem lentAt_0 (d : D) (en : En) : lentAt (some (d, .lent) :: en) 0 = some d := id rfl
@[simp] theorem isND_none : isND .none = true := id rfl
@[simp] theorem isND_int (i : Int) : isND (.int i) = false := id rfl
@[simp] theorem isND_bool (i : Bool) : isND (.bool i) = false := id rfl
@[simp] theorem isND_str (i : Str) : isND (.str i) = false := id rfl
@[simp] theorem isND_tup (i : List D) : isND (.tuple i) = false := id rfl
@[simp] theorem isND_lst (i : List D) : isND (.list i) = false := id rfl
@[simp] theorem isND_dct (i : List (D × D)) : isND (.dict i) = false := id rfl
@[simp] theorem sl_ok : sizeLine = 16777216 := sizeLine_eq
def LaterF (f : En → Prop) (e : En) : Prop := f e
@[simp] theorem wp_sSeq (a b : Sv) (x : Option (D × Fl)) (en : En) (Q : Out × En → Prop) : Wp (sSeq a b (x :: en)) Q ↔ Wp (a (x :: en)) fun y => match y.1 with
  | .nx => LaterF (fun e => Wp (b e) Q) y.2
  | o => Q (o, y.2) := by
  rw [e_sSeq, wp_bind]
  constructor
  · rintro ⟨⟨o, e⟩, h1, h2⟩
    refine ⟨_, h1, ?_⟩
    cases o with
    | nx => exact h2
    | bk => exact (wp_some (y := (Out.bk, e))).mp h2
    | ct => exact (wp_some (y := (Out.ct, e))).mp h2
    | rt d c => exact (wp_some (y := (Out.rt d c, e))).mp h2
  · rintro ⟨⟨o, e⟩, h1, h2⟩
    refine ⟨_, h1, ?_⟩
    cases o with
    | nx => exact h2
    | bk => exact (wp_some (y := (Out.bk, e))).mpr h2
    | ct => exact (wp_some (y := (Out.ct, e))).mpr h2
    | rt d c => exact (wp_some (y := (Out.rt d c, e))).mpr h2
@[simp] theorem wp_sFor (it : Lv) (s : Gv) (b : Sv) (x : Option (D × Fl)) (en : En) (Q : Out × En → Prop) : Wp (sFor it s b (x :: en)) Q ↔ Wp (it (x :: en)) fun z => Wp (forL s b z.1 z.2) Q := by rw [e_sFor, wp_bind]
@[simp] theorem wp_itR (a : Av) (g : List D → Option (List D)) (x : Option (D × Fl)) (en : En) (Q : List D × En → Prop) : Wp (itR a g (x :: en)) Q ↔ Wp (a (x :: en)) fun z => Wp (lates z.2 z.1) fun ds => Wp (g ds) fun r => Q (r, z.2) := by
  rw [e_itR, wp_bind]
  simp only [wp_bind, wp_map]
@[simp] theorem wp_itV (f : Vv) (x : Option (D × Fl)) (en : En) (Q : List D × En → Prop) : Wp (itV f (x :: en)) Q ↔ Wp (f (x :: en)) fun z => Wp (seqD z.1) fun ds => Q (ds, z.2) := by
  rw [e_itV, wp_bind]
  simp only [wp_map]
theorem later_i {f : En → Prop} {e : En} (h : f e) : LaterF f e := h
/-! ### comprehensions over values of one kind -/
theorem lc_typ {α : Type} {vs : List Nat} {s : Gv} {t : Tv} {f : Vv} {w : En} (enc : α → D) (e : α → En) (c : α → Bool) (g : α → D) (hw : wipeE w vs = w) : ∀ as : List α, (∀ a ∈ as, s (enc a) w = some (e a) ∧ t (e a) = some (c a, e a) ∧ (c a = true → f (e a) = some (g a, e a)) ∧ wipeE (e a) vs = w) →
    lcL vs s t f (as.map enc) w = some ((as.filter c).map g, w)
  | [], _ => rfl
  | a :: as, h => by
    obtain ⟨h1, h2, h3, h4⟩ := h a (List.mem_cons_self ..)
    have ih := lc_typ enc e c g hw as fun b hb => h b (List.mem_cons_of_mem _ hb)
    rw [List.map_cons]
    show ((s (enc a) (wipeE w vs)).bind _) = _
    rw [hw, h1]
    show ((t (e a)).bind _) = _
    rw [h2]
    by_cases hc : c a = true
    · show (if c a = true then (f (e a)).bind _ else _) = _
      rw [if_pos hc, h3 hc]
      show ((lcL vs s t f (as.map enc) (wipeE (e a) vs)).map _) = _
      rw [h4, ih, List.filter_cons_of_pos hc]
      rfl
    · show (if c a = true then _ else lcL vs s t f (as.map enc) (wipeE (e a) vs)) = _
      rw [if_neg hc, h4, ih, List.filter_cons_of_neg hc]
theorem flc_eq {vs : List Nat} {it : Lv} {s : Gv} {t : Tv} {f : Vv} {en en1 en2 : En} {ds rs : List D} (h1 : it en = some (ds, en1)) (h2 : lcL vs s t f ds (wipeE en1 vs) = some (rs, en2)) (hl : rs.length ≤ sizeLine) : fLc vs it s t f en = some (.list rs, true, backE en1 en2 vs) := by
  unfold fLc
  rw [h1]
  show ((lcL vs s t f ds (wipeE en1 vs)).bind _) = _
  rw [h2]
  exact if_pos hl
@[simp] theorem rgOk_n (i j : Int) : rgOk i j = (decide (-(2 ^ 62) ≤ i) && decide (i < 2 ^ 62) && decide (-(2 ^ 62) ≤ j) && decide (j < 2 ^ 62) && decide ((j - i).toNat ≤ 2 ^ 24)) := id rfl
theorem rgOk_le {i j : Int} (h0 : 0 ≤ i) (h1 : i ≤ 100000) (h2 : 0 ≤ j) (h3 : j ≤ 100000) : rgOk i j = true := by
  rw [rgOk_n]
  simp only [Bool.and_eq_true, decide_eq_true_eq]
  omega
/-! ### what may be compared -/
structure Sh (k : Nat) (d : D) : Prop where
  c : d.canLay0 = true
  p : d.depth ≤ k
theorem Sh.shaped {k : Nat} {d : D} (h : Sh k d) (hk : k ≤ 64) : SeqAt.shaped d = true := by
  unfold SeqAt.shaped
  rw [h.c, Bool.true_and, decide_eq_true_eq]
  exact Nat.le_trans h.p hk
theorem Sh.mono {k j : Nat} {d : D} (h : Sh k d) (hk : k ≤ j) : Sh j d := ⟨h.c, Nat.le_trans h.p hk⟩
theorem Sh.int (i : Int) : Sh 0 (.int i) := ⟨by simp [PyData.canLay0], Nat.le_refl _⟩
theorem Sh.str (i : Str) (h : PyData.strOk i = true) : Sh 0 (.str i) := ⟨by simp [PyData.canLay0, h], Nat.le_refl _⟩
theorem Sh.bool (i : Bool) : Sh 0 (.bool i) := ⟨by simp [PyData.canLay0], Nat.le_refl _⟩
theorem Sh.none : Sh 0 .none := ⟨by simp [PyData.canLay0], Nat.le_refl _⟩
theorem sh_all {k : Nat} : ∀ {ds : List D}, (∀ d ∈ ds, Sh k d) → PyData.canLayAll0 ds = true ∧ PyData.depthAll ds ≤ k
  | [], _ => ⟨by simp [PyData.canLayAll0], Nat.zero_le _⟩
  | d :: ds, h => by
    obtain ⟨a, b⟩ := h d (List.mem_cons_self ..)
    obtain ⟨a2, b2⟩ := sh_all fun d hd => h d (List.mem_cons_of_mem _ hd)
    refine ⟨by simp [PyData.canLayAll0, a, a2], ?_⟩
    show max _ _ ≤ k
    omega
theorem Sh.tup {k : Nat} {ds : List D} (h : ∀ d ∈ ds, Sh k d) : Sh (k + 1) (.tuple ds) := by
  obtain ⟨a, b⟩ := sh_all h
  exact ⟨by simp [PyData.canLay0, a], Nat.succ_le_succ b⟩
theorem Sh.lst {k : Nat} {ds : List D} (h : ∀ d ∈ ds, Sh k d) : Sh (k + 1) (.list ds) := by
  obtain ⟨a, b⟩ := sh_all h
  exact ⟨by simp [PyData.canLay0, a], Nat.succ_le_succ b⟩
theorem dNe_same {k : Nat} {d : D} (h : Sh k d) (hk : k ≤ 64) : dNe d d = some (.bool false, false) := by
  unfold dNe
  rw [h.shaped hk, SeqAt.eqv_refl d h.c]
  rfl
theorem dNe_of {k j : Nat} {d e : D} (h : Sh k d) (h' : Sh j e) (hk : k ≤ 64) (hj : j ≤ 64) : dNe d e = some (.bool (!PyData.eqv d e), false) := by
  unfold dNe
  rw [h.shaped hk, h'.shaped hj]
  rfl
theorem dEq_of {k j : Nat} {d e : D} (h : Sh k d) (h' : Sh j e) (hk : k ≤ 64) (hj : j ≤ 64) : dEq d e = some (.bool (PyData.eqv d e), false) := by
  unfold dEq
  rw [h.shaped hk, h'.shaped hj]
  rfl
theorem eqv_nil {ds : List D} : PyData.eqv (.list ds) (.list []) = ds.isEmpty := by
  cases ds <;> simp [PyData.eqv, PyData.eqvAll]
theorem lc_inv {vs : List Nat} {s : Gv} {t : Tv} {f : Vv} (I : List D → List D → En → Prop) (step : ∀ d r acc w, I (d :: r) acc w → Wp (s d (wipeE w vs)) fun e1 => Wp (t e1) fun x => if x.1 = true then Wp (f x.2) fun y => I r (acc ++ [y.1]) (wipeE y.2 vs) else I r acc (wipeE x.2 vs)) :
    ∀ (ds acc : List D) (w : En), I ds acc w → Wp (lcL vs s t f ds w) fun y => I [] (acc ++ y.1) y.2
  | [], acc, w, h => ⟨([], w), rfl, by show I [] (acc ++ []) w; rw [List.append_nil]; exact h⟩
  | d :: ds, acc, w, h => by
    obtain ⟨e1, p1, x, p2, q⟩ := step d ds acc w h
    show Wp ((s d (wipeE w vs)).bind _) _
    rw [p1]
    show Wp ((t e1).bind _) _
    rw [p2]
    show Wp (if x.1 = true then _ else _) _
    by_cases hx : x.1 = true
    · rw [if_pos hx] at q ⊢
      obtain ⟨y, p3, q⟩ := q
      obtain ⟨z, p4, q4⟩ := lc_inv I step ds _ _ q
      rw [p3]
      show Wp ((lcL vs s t f ds (wipeE y.2 vs)).map _) _
      rw [p4]
      refine ⟨_, rfl, ?_⟩
      rw [List.append_assoc] at q4
      exact q4
    · rw [if_neg hx] at q ⊢
      exact lc_inv I step ds _ _ q
theorem flc_wp {vs : List Nat} {it : Lv} {s : Gv} {t : Tv} {f : Vv} {en : En} {Q : D × Bool × En → Prop} (h : Wp (it en) fun x => Wp (lcL vs s t f x.1 (wipeE x.2 vs)) fun y => y.1.length ≤ sizeLine ∧ Q (.list y.1, true, backE x.2 y.2 vs)) : Wp (fLc vs it s t f en) Q := by
  obtain ⟨x, h1, y, h2, h3, q⟩ := h
  exact ⟨_, flc_eq h1 h2 h3, q⟩
theorem dEq_i (i j : Int) : dEq (.int i) (.int j) = some (.bool (decide (i = j)), false) := by
  rw [dEq_of (Sh.int i) (Sh.int j) (by omega) (by omega)]
  simp [PyData.eqv]
  rfl
@[simp] theorem wipeE_nil (en : En) : wipeE en [] = en := id rfl
@[simp] theorem wipeE_cons (en : En) (v : Nat) (vs : List Nat) : wipeE en (v :: vs) = (wipeE en vs).set v none := id rfl
@[simp] theorem backE_nil (e0 e1 : En) : backE e0 e1 [] = e1 := id rfl
end Fx
/-! PxI: lists of whole numbers. -/
namespace Fx
open PySem PySem.Spec L2
theorem sh_ints {k : Nat} (ns : List Int) : ∀ d ∈ ns.map PyData.int, Sh k d := fun d hd => by
  obtain ⟨i, _, rfl⟩ := List.mem_map.mp hd
  exact Sh.mono (Sh.int i) (Nat.zero_le _)
theorem any_ints (a : Int) (ns : List Int) : (ns.map PyData.int).any (fun z => PyData.eqv z (.int a)) = decide (a ∈ ns) := by
  rw [Bool.eq_iff_iff]
  simp only [List.any_eq_true, List.mem_map, decide_eq_true_eq]
  constructor
  · rintro ⟨_, ⟨n, hn, rfl⟩, e⟩
    simp [PyData.eqv] at e
    exact e ▸ hn
  · intro h
    exact ⟨_, ⟨a, h, rfl⟩, by simp [PyData.eqv]⟩
theorem memD_tI (a : Int) (ns : List Int) : memD (.int a) (.tuple (ns.map .int)) = some (decide (a ∈ ns)) := by
  have h1 : SeqAt.shaped (.int a) = true := (Sh.int a).shaped (by omega)
  have h2 : SeqAt.shaped (.tuple (ns.map PyData.int)) = true := (Sh.tup (k := 0) (sh_ints ns)).shaped (by omega)
  show (if (SeqAt.shaped (.int a) && SeqAt.shaped (.tuple (ns.map PyData.int))) = true then some ((ns.map PyData.int).any fun z => PyData.eqv z (.int a)) else none) = _
  rw [h1, h2, any_ints]
  rfl
theorem memD_lI (a : Int) (ns : List Int) : memD (.int a) (.list (ns.map .int)) = some (decide (a ∈ ns)) := by
  have h1 : SeqAt.shaped (.int a) = true := (Sh.int a).shaped (by omega)
  have h2 : SeqAt.shaped (.list (ns.map PyData.int)) = true := (Sh.lst (k := 0) (sh_ints ns)).shaped (by omega)
  show (if (SeqAt.shaped (.int a) && SeqAt.shaped (.list (ns.map PyData.int))) = true then some ((ns.map PyData.int).any fun z => PyData.eqv z (.int a)) else none) = _
  rw [h1, h2, any_ints]
  rfl
@[simp] theorem dIn_tI (a : Int) (ns : List Int) : dIn (.int a) (.tuple (ns.map .int)) = some (.bool (decide (a ∈ ns)), false) := by
  unfold dIn
  rw [memD_tI]
  rfl
@[simp] theorem dIn_lI (a : Int) (ns : List Int) : dIn (.int a) (.list (ns.map .int)) = some (.bool (decide (a ∈ ns)), false) := by
  unfold dIn
  rw [memD_lI]
  rfl
@[simp] theorem dNotIn_tI (a : Int) (ns : List Int) : dNotIn (.int a) (.tuple (ns.map .int)) = some (.bool (!decide (a ∈ ns)), false) := by
  unfold dNotIn
  rw [memD_tI]
  rfl
@[simp] theorem dNotIn_lI (a : Int) (ns : List Int) : dNotIn (.int a) (.list (ns.map .int)) = some (.bool (!decide (a ∈ ns)), false) := by
  unfold dNotIn
  rw [memD_lI]
  rfl
/-! ### sorted -/
def srtI (ns : List Int) : List Int := ns.mergeSort fun a b => decide (a ≤ b)
theorem le_int (a b : Int) : PySem.W.dataLe false (fun d : D => d) (.int a) (.int b) = decide (a ≤ b) := by
  by_cases h : a ≤ b
  · have h1 : ¬ b < a := by omega
    simp [PySem.W.dataLe, PySem.W.sortLe, PySem.W.keyToks, PyProof.Rows.listOrd, PyProof.Rows.itemOrd, PyProof.Rows.lexLt, PyProof.Rows.itemLt, h, h1]
  · have h1 : b < a := by omega
    simp [PySem.W.dataLe, PySem.W.sortLe, PySem.W.keyToks, PyProof.Rows.listOrd, PyProof.Rows.itemOrd, PyProof.Rows.lexLt, PyProof.Rows.itemLt, h, h1]
theorem srtD_ints (ns : List Int) : srtD (ns.map .int) = (srtI ns).map .int := by
  unfold srtD srtI
  rw [List.map_mergeSort]
  intro a _ b _
  exact (le_int a b).symm
theorem srtI_perm (ns : List Int) : (srtI ns).Perm ns := List.mergeSort_perm ns _
theorem srtI_mem {ns : List Int} {a : Int} : a ∈ srtI ns ↔ a ∈ ns := (srtI_perm ns).mem_iff
theorem srtI_le (ns : List Int) : (srtI ns).Pairwise (· ≤ ·) := by
  have h := List.pairwise_mergeSort (le := fun a b : Int => decide (a ≤ b)) (fun a b c => by simp only [decide_eq_true_eq]; omega) (fun a b => by simp only [Bool.or_eq_true, decide_eq_true_eq]; omega) ns
  exact h.imp fun z => of_decide_eq_true z
theorem srtI_lt {ns : List Int} (h : ns.Nodup) : (srtI ns).Pairwise (· < ·) := lt_of_le_nodup _ (srtI_le ns) ((srtI_perm ns).nodup_iff.mpr h)
theorem sortOk_ints {ns : List Int} (h : ns.length ≤ sizeLine) : sortOk (ns.map .int) = true := by
  unfold sortOk
  simp only [Bool.and_eq_true, Bool.or_eq_true, List.all_eq_true, decide_eq_true_eq, List.length_map]
  refine ⟨⟨⟨h, fun d hd e he => ?_⟩, .inr fun d hd => ?_⟩, fun d hd => ?_⟩
  · obtain ⟨i, _, rfl⟩ := List.mem_map.mp hd
    obtain ⟨j, _, rfl⟩ := List.mem_map.mp he
    simp [PySem.W.alike]
  · obtain ⟨i, _, rfl⟩ := List.mem_map.mp hd
    rfl
  · obtain ⟨i, _, rfl⟩ := List.mem_map.mp hd
    show 0 < 40
    omega
theorem layOk_ints (ns : List Int) : layOk (ns.map .int) = true := List.all_eq_true.mpr fun d hd => (sh_ints (k := 0) ns d hd).c
theorem dSort_lI {ns : List Int} (h : ns.length ≤ 16777216) : dSort [.list (ns.map .int)] = some (.list ((srtI ns).map .int), true) := by
  show (if _ then _ else _) = _
  rw [if_pos ⟨sortOk_ints (by rw [sl_ok]; exact h), layOk_ints ns⟩, srtD_ints]
theorem intsD_map (ns : List Int) : intsD (ns.map .int) = some ns := by
  induction ns with
  | nil => rfl
  | cons n ns ih =>
    show (intsD (ns.map .int)).map _ = _
    rw [ih]
    rfl
theorem dSortSet_lI {ns : List Int} (h : ns.length ≤ 1000) (h2 : (setI ns).length < 64) : dSortSet [.list (ns.map .int)] = some (.list ((setI ns).map .int), true) := by
  show ((intsD (ns.map .int)).bind _) = _
  rw [intsD_map]
  exact if_pos ⟨h, h2⟩
theorem insU_len (k : Int) : ∀ ns : List Int, (insU k ns).length ≤ ns.length + 1
  | [] => Nat.le_refl _
  | x :: xs => by
    unfold insU
    split
    · simp
    · split
      · simp
      · have := insU_len k xs
        simp only [List.length_cons]
        omega
theorem setI_len : ∀ ns : List Int, (setI ns).length ≤ ns.length
  | [] => Nat.le_refl _
  | n :: ns => by
    have h1 := insU_len n (setI ns)
    have h2 := setI_len ns
    show (insU n (setI ns)).length ≤ _
    rw [List.length_cons]
    omega
@[simp] theorem dRev_l (ds : List D) : dRev (.list ds) = some (.list ds.reverse, true) := id rfl
@[simp] theorem mExtG_ll (ds es : List D) : mExtG (.list ds) [.list es] = if ds.length + es.length ≤ sizeLine then some (.none, false, .list (ds ++ es)) else none := id rfl
theorem itR_at {a : Av} {g : List D → Option (List D)} {en en' : En} {hs : List Hd} {ds rs : List D} (h1 : a en = some (hs, en')) (h2 : lates en' hs = some ds) (h3 : g ds = some rs) : itR a g en = some (rs, en') := by
  unfold itR
  rw [h1, Option.bind_some]
  show ((lates en' hs).bind _) = _
  rw [h2, Option.bind_some, h3]
  rfl
/-! ### two for -/
theorem lcO_typ {α : Type} {vs vs1 : List Nat} {s s1 : Gv} {t t1 : Tv} {it1 : Lv} {f : Vv} {w : En} (enc : α → D) (g : α → List D) : ∀ as : List α, (∀ a ∈ as, ∃ e e1 e2, s (enc a) (wipeE w vs) = some e ∧ t e = some (true, e) ∧ it1 e = some e1 ∧ lcL vs1 s1 t1 f e1.1 (wipeE e1.2 vs1) = some (g a, e2) ∧ wipeE e2 vs = w) →
    lcO vs vs1 s t it1 s1 t1 f (as.map enc) w = some ((as.map g).flatten, w)
  | [], _ => rfl
  | a :: as, h => by
    obtain ⟨e, e1, e2, h1, h2, h3, h4, h5⟩ := h a (List.mem_cons_self ..)
    have ih := lcO_typ enc g as fun b hb => h b (List.mem_cons_of_mem _ hb)
    rw [List.map_cons]
    show ((s (enc a) (wipeE w vs)).bind _) = _
    rw [h1]
    show ((t e).bind _) = _
    rw [h2]
    show ((it1 e).bind _) = _
    rw [h3]
    show ((lcL vs1 s1 t1 f e1.1 (wipeE e1.2 vs1)).bind _) = _
    rw [h4]
    show ((lcO vs vs1 s t it1 s1 t1 f (as.map enc) (wipeE e2 vs)).map _) = _
    rw [h5, ih]
    rfl
theorem flc2_eq {vs vs1 : List Nat} {it it1 : Lv} {s s1 : Gv} {t t1 : Tv} {f : Vv} {en en1 en2 : En} {ds rs : List D} (h1 : it en = some (ds, en1)) (h2 : lcO vs vs1 s t it1 s1 t1 f ds (wipeE en1 vs) = some (rs, en2)) (hl : rs.length ≤ sizeLine) : fLc2 vs vs1 it s t it1 s1 t1 f en = some (.list rs, true, backE en1 en2 vs) := by
  unfold fLc2
  rw [h1]
  show ((lcO vs vs1 s t it1 s1 t1 f ds (wipeE en1 vs)).bind _) = _
  rw [h2]
  exact if_pos hl
end Fx
/-! PxS: texts that are written; calls that are lent what they are given. -/
namespace Fx
open PySem PySem.Spec L2
@[simp high] theorem ge_s {α : Type} (x : α) (l : List α) (i : Nat) : (x :: l)[i + 1]? = l[i]? := List.getElem?_cons_succ
@[simp high] theorem ge_0 {α : Type} (x : α) (l : List α) : (x :: l)[0]? = some x := List.getElem?_cons_zero
@[simp high] theorem ob_some {α β : Type} (a : α) (f : α → Option β) : (some a).bind f = f a := id rfl
@[simp high] theorem om_some {α β : Type} (a : α) (f : α → β) : (some a).map f = some (f a) := id rfl
theorem ofS_ok (a : String) : PyData.strOk (Str.ofString a) = true := by
  rw [Str.ofString_eq_toList]
  unfold PyData.strOk
  simp only [List.all_toArray, List.all_map, List.all_eq_true]
  intro c _
  have := c.valid
  simp only [Function.comp, decide_eq_true_eq]
  unfold Char.toNat
  rcases this with h | h
  · have : c.val.toNat < 0xd800 := h
    omega
  · exact h.2
theorem map_toNat_inj : ∀ {a b : List Char}, a.map Char.toNat = b.map Char.toNat → a = b
  | [], [], _ => rfl
  | [], _ :: _, h => by cases h
  | _ :: _, [], h => by cases h
  | x :: a, y :: b, h => by
    rw [List.map_cons, List.map_cons] at h
    obtain ⟨h1, h2⟩ := List.cons.inj h
    rw [map_toNat_inj h2, Char.ext (UInt32.toNat_inj.mp h1)]
@[simp] theorem ofS_inj (a b : String) : (Str.ofString a = Str.ofString b) = (a = b) := by
  refine propext ⟨fun h => ?_, fun h => by rw [h]⟩
  rw [Str.ofString_eq_toList, Str.ofString_eq_toList] at h
  injection h with h
  have h2 : a.toList.map Char.toNat = b.toList.map Char.toNat := by simpa using congrArg Array.toList h
  exact String.toList_inj.mp (map_toNat_inj h2)
theorem sh_lit (a : String) : Sh 0 (.str (Str.ofString a)) := Sh.str _ (ofS_ok a)
theorem dEq_str {a b : Str} (h : PyData.strOk a = true) (h' : PyData.strOk b = true) : dEq (.str a) (.str b) = some (.bool (decide (a = b)), false) := by
  rw [dEq_of (Sh.str a h) (Sh.str b h') (by omega) (by omega)]
  simp [PyData.eqv]
  rfl
theorem dNe_str {a b : Str} (h : PyData.strOk a = true) (h' : PyData.strOk b = true) : dNe (.str a) (.str b) = some (.bool (!decide (a = b)), false) := by
  rw [dNe_of (Sh.str a h) (Sh.str b h') (by omega) (by omega)]
  simp [PyData.eqv]
  rfl
@[simp] theorem dEq_lit (a b : String) : dEq (.str (Str.ofString a)) (.str (Str.ofString b)) = some (.bool (decide (a = b)), false) := by
  rw [dEq_str (ofS_ok a) (ofS_ok b)]
  simp only [ofS_inj]
@[simp] theorem dNe_lit (a b : String) : dNe (.str (Str.ofString a)) (.str (Str.ofString b)) = some (.bool (!decide (a = b)), false) := by
  rw [dNe_str (ofS_ok a) (ofS_ok b)]
  simp only [ofS_inj]
theorem dEq_int (i j : Int) : dEq (.int i) (.int j) = some (.bool (decide (i = j)), false) := by
  rw [dEq_of (Sh.int i) (Sh.int j) (by omega) (by omega)]
  simp [PyData.eqv]
  rfl
theorem dNe_int (i j : Int) : dNe (.int i) (.int j) = some (.bool (!decide (i = j)), false) := by
  rw [dNe_of (Sh.int i) (Sh.int j) (by omega) (by omega)]
  simp [PyData.eqv]
  rfl
/-- one of some texts -/
theorem memD_ts {a : Str} {bs : List Str} (h : PyData.strOk a = true) (h' : ∀ b ∈ bs, PyData.strOk b = true) : memD (.str a) (.tuple (bs.map .str)) = some (decide (a ∈ bs)) := by
  have h1 : SeqAt.shaped (.str a) = true := (Sh.str a h).shaped (by omega)
  have h2 : SeqAt.shaped (.tuple (bs.map PyData.str)) = true := (Sh.tup (k := 0) fun d hd => by
    obtain ⟨b, hb, rfl⟩ := List.mem_map.mp hd
    exact Sh.str b (h' b hb)).shaped (by omega)
  show (if (SeqAt.shaped (.str a) && SeqAt.shaped (.tuple (bs.map PyData.str))) = true then some ((bs.map PyData.str).any fun z => PyData.eqv z (.str a)) else none) = _
  rw [h1, h2]
  refine congrArg some ?_
  rw [Bool.eq_iff_iff]
  simp only [List.any_eq_true, List.mem_map, decide_eq_true_eq]
  constructor
  · rintro ⟨_, ⟨n, hn, rfl⟩, e⟩
    simp [PyData.eqv] at e
    exact e ▸ hn
  · intro h
    exact ⟨_, ⟨a, h, rfl⟩, by simp [PyData.eqv]⟩
theorem dIn_ts {a : Str} {bs : List Str} (h : PyData.strOk a = true) (h' : ∀ b ∈ bs, PyData.strOk b = true) : dIn (.str a) (.tuple (bs.map .str)) = some (.bool (decide (a ∈ bs)), false) := by
  unfold dIn
  rw [memD_ts h h']
  rfl
@[simp] theorem dIn_lit2 (a b c : String) : dIn (.str (Str.ofString a)) (.tuple [.str (Str.ofString b), .str (Str.ofString c)]) = some (.bool (decide (a = b ∨ a = c)), false) := by
  have := dIn_ts (a := Str.ofString a) (bs := [Str.ofString b, Str.ofString c]) (ofS_ok a) (by simp [ofS_ok])
  simpa using this
@[simp] theorem dIn_lit3 (a b c d : String) : dIn (.str (Str.ofString a)) (.tuple [.str (Str.ofString b), .str (Str.ofString c), .str (Str.ofString d)]) = some (.bool (decide (a = b ∨ a = c ∨ a = d)), false) := by
  have := dIn_ts (a := Str.ofString a) (bs := [Str.ofString b, Str.ofString c, Str.ofString d]) (ofS_ok a) (by simp [ofS_ok])
  simpa using this
/-! ### slices -/
theorem cut_drop {α : Type} (ds : List α) (k : Nat) : cutD ds (some (k : Int)) none = ds.drop k := by
  unfold cutD
  rw [HT.sIx_none, HT.sIx_nat]
  by_cases h : k ≤ ds.length
  · rw [Nat.min_eq_left h, List.take_of_length_le (by rw [List.length_drop]; exact Nat.le_refl _)]
  · rw [Nat.min_eq_right (by omega), Nat.sub_self, List.take_zero, List.drop_of_length_le (by omega)]
theorem cut_take {α : Type} (ds : List α) (m : Nat) : cutD ds none (some (m : Int)) = ds.take m := by
  unfold cutD
  rw [HT.sIx_none, HT.sIx_nat, List.drop_zero, Nat.sub_zero]
  by_cases h : m ≤ ds.length
  · rw [Nat.min_eq_left h]
  · rw [Nat.min_eq_right (by omega), List.take_of_length_le (Nat.le_refl _), List.take_of_length_le (by omega)]
theorem cut_last {α : Type} (ds : List α) : cutD ds none (some (-1)) = ds.dropLast := by
  unfold cutD
  rw [HT.sIx_none, List.drop_zero, Nat.sub_zero, List.dropLast_eq_take]
  congr 1
  show ((-1 : Int) + (ds.length : Int)).toNat = ds.length - 1
  omega
theorem cut_all {α : Type} (ds : List α) : cutD ds none none = ds := by
  unfold cutD
  rw [HT.sIx_none, HT.sIx_none, List.drop_zero, Nat.sub_zero, List.take_of_length_le (Nat.le_refl _)]
@[simp] theorem dSl_tk (ds : List D) (m : Nat) : dSl (.tuple ds) none (some (m : Int)) = some (.tuple (ds.take m), false) := by rw [← cut_take]; rfl
@[simp] theorem dSl_lk (ds : List D) (m : Nat) : dSl (.list ds) none (some (m : Int)) = some (.list (ds.take m), true) := by rw [← cut_take]; rfl
@[simp] theorem dSl_tk1 (ds : List D) (m : Nat) : dSl (.tuple ds) none (some ((m : Int) + 1)) = some (.tuple (ds.take (m + 1)), false) := by rw [← cut_take]; rfl
@[simp] theorem dSl_lk1 (ds : List D) (m : Nat) : dSl (.list ds) none (some ((m : Int) + 1)) = some (.list (ds.take (m + 1)), true) := by rw [← cut_take]; rfl
@[simp] theorem dSl_td (ds : List D) (m : Nat) : dSl (.tuple ds) (some (m : Int)) none = some (.tuple (ds.drop m), false) := by rw [← cut_drop]; rfl
@[simp] theorem dSl_ld (ds : List D) (m : Nat) : dSl (.list ds) (some (m : Int)) none = some (.list (ds.drop m), true) := by rw [← cut_drop]; rfl
@[simp] theorem dSl_td1 (ds : List D) (m : Nat) : dSl (.tuple ds) (some ((m : Int) + 1)) none = some (.tuple (ds.drop (m + 1)), false) := by rw [← cut_drop]; rfl
@[simp] theorem dSl_ld1 (ds : List D) (m : Nat) : dSl (.list ds) (some ((m : Int) + 1)) none = some (.list (ds.drop (m + 1)), true) := by rw [← cut_drop]; rfl
@[simp] theorem dSl_l_1 (ds : List D) : dSl (.list ds) (some 1) none = some (.list (ds.drop 1), true) := dSl_ld ds 1
@[simp] theorem dSl_t_1 (ds : List D) : dSl (.tuple ds) (some 1) none = some (.tuple (ds.drop 1), false) := dSl_td ds 1
@[simp] theorem dSl_t_k2 (ds : List D) : dSl (.tuple ds) none (some 2) = some (.tuple (ds.take 2), false) := dSl_tk ds 2
@[simp] theorem dSl_t_k1 (ds : List D) : dSl (.tuple ds) none (some 1) = some (.tuple (ds.take 1), false) := dSl_tk ds 1
@[simp] theorem dSl_tl (ds : List D) : dSl (.tuple ds) none (some (-1)) = some (.tuple ds.dropLast, false) := by rw [← cut_last]; rfl
@[simp] theorem dSl_ll (ds : List D) : dSl (.list ds) none (some (-1)) = some (.list ds.dropLast, true) := by rw [← cut_last]; rfl
@[simp] theorem dSl_ta (ds : List D) : dSl (.tuple ds) none none = some (.tuple ds, false) := by
  show some (PyData.tuple (cutD ds none none), false) = _
  rw [cut_all]
@[simp] theorem dSl_la (ds : List D) : dSl (.list ds) none none = some (.list ds, true) := by
  show some (PyData.list (cutD ds none none), true) = _
  rw [cut_all]
theorem atI_n {α : Type} {ds : List α} {n : Nat} {d : α} (h : ds[n]? = some d) : atI ds (n : Int) = some d := by
  have hn := (List.getElem?_eq_some_iff.mp h).1
  unfold atI ixN
  rw [if_pos (by omega), if_pos (by omega), Int.toNat_natCast]
  exact h
@[simp] theorem atI_snoc {α : Type} (ds : List α) (d : α) : atI (ds ++ [d]) (-1) = some d := by
  unfold atI ixN
  rw [if_neg (by omega), if_pos (by simp; omega)]
  simp
  rw [show ((-1 : Int) + ((ds.length : Int) + 1)).toNat = ds.length by omega]
  simp
@[simp] theorem dDict_d (es : List (D × D)) : dDict [.dict es] = some (.dict es, true) := id rfl
@[simp] theorem dMax2_ii (i j : Int) : dMax2 [.int i, .int j] = some (.int (if j > i then j else i), false) := id rfl
@[simp] theorem dMin2_ii (i j : Int) : dMin2 [.int i, .int j] = some (.int (if j < i then j else i), false) := id rfl
@[simp] theorem atI_m1 {α : Type} (a : α) : atI [a] (-1) = some a := id rfl
@[simp] theorem atI_m2 {α : Type} (a b : α) : atI [a, b] (-1) = some b := id rfl
@[simp] theorem atI_m3 {α : Type} (a b c : α) : atI [a, b, c] (-1) = some c := id rfl
@[simp] theorem atI_m4 {α : Type} (a b c d : α) : atI [a, b, c, d] (-1) = some d := id rfl
@[simp] theorem atI_0 {α : Type} (a : α) (r : List α) : atI (a :: r) 0 = some a := atI_n (n := 0) rfl
@[simp] theorem atI_1 {α : Type} (a b : α) (r : List α) : atI (a :: b :: r) 1 = some b := atI_n (n := 1) rfl
@[simp] theorem atI_2 {α : Type} (a b c : α) (r : List α) : atI (a :: b :: c :: r) 2 = some c := atI_n (n := 2) rfl
@[simp] theorem atI_3 {α : Type} (a b c d : α) (r : List α) : atI (a :: b :: c :: d :: r) 3 = some d := atI_n (n := 3) rfl
/-! ### calls -/
@[simp] theorem e_fCallL (np : Nat) (a : Av) (F : List D → Option (D × Bool)) (x : Option (D × Fl)) (en : En) : fCallL np a F (x :: en) = (a (x :: en)).bind fun x => (lates x.2 x.1).bind fun ds => if ds.length = np then (F ds).bind fun z => if okR z.1 z.2 = true then some (z.1, z.2, x.2) else none else none := id rfl
theorem lCons_b (p : Vv) (r : Lv) (en : En) : lCons p r en = (p en).bind fun z => (r z.2).map fun y => (z.1 :: y.1, y.2) := by
  unfold lCons
  cases h : p en with
  | none => rfl
  | some z =>
    obtain ⟨z1, z2⟩ := z
    cases h2 : r z2 <;> simp [h2]
@[simp high] theorem e_fCall1 (p : Vv) (F : List D → Option (D × Bool)) (x : Option (D × Fl)) (en : En) : fCall 1 (lCons p lNil) F (x :: en) = (p (x :: en)).bind fun z => (F [z.1]).map fun y => (y.1, y.2, z.2) := by
  rw [e_fCall, lCons_b]
  cases p (x :: en) <;> rfl
@[simp high] theorem e_fCall2 (p q : Vv) (F : List D → Option (D × Bool)) (x : Option (D × Fl)) (en : En) : fCall 2 (lCons p (lCons q lNil)) F (x :: en) = (p (x :: en)).bind fun z => (q z.2).bind fun u => (F [z.1, u.1]).map fun y => (y.1, y.2, u.2) := by
  rw [e_fCall, lCons_b]
  cases p (x :: en) with
  | none => rfl
  | some z =>
    simp only [Option.bind_some, lCons_b]
    cases q z.2 <;> rfl
@[simp high] theorem e_fCall3 (p q r : Vv) (F : List D → Option (D × Bool)) (x : Option (D × Fl)) (en : En) : fCall 3 (lCons p (lCons q (lCons r lNil))) F (x :: en) = (p (x :: en)).bind fun z => (q z.2).bind fun u => (r u.2).bind fun t => (F [z.1, u.1, t.1]).map fun y => (y.1, y.2, t.2) := by
  rw [e_fCall, lCons_b]
  cases p (x :: en) with
  | none => rfl
  | some z =>
    simp only [Option.bind_some, lCons_b]
    cases q z.2 with
    | none => rfl
    | some u =>
      simp only [Option.bind_some, lCons_b]
      cases r u.2 <;> rfl
@[simp] theorem okR_i (i : Int) (b : Bool) : okR (.int i) b = true := by cases b <;> rfl
@[simp] theorem okR_b (i b : Bool) : okR (.bool i) b = true := by cases b <;> rfl
@[simp] theorem okR_s (i : Str) (b : Bool) : okR (.str i) b = true := by cases b <;> rfl
@[simp] theorem okR_n (b : Bool) : okR .none b = true := by cases b <;> rfl
@[simp] theorem okR_t (ds : List D) (b : Bool) : okR (.tuple ds) b = tupDs ds := by cases b <;> simp [okR, tupD]
@[simp] theorem okR_l (ds : List D) : okR (.list ds) true = tupDs ds := rfl
theorem tupDs_all {ds : List D} (h : ∀ d ∈ ds, tupD d = true) : tupDs ds = true := by
  induction ds with
  | nil => rfl
  | cons d ds ih =>
    rw [tupDs, h d (List.mem_cons_self ..), ih fun e he => h e (List.mem_cons_of_mem _ he)]
    rfl
/-! ### kinds -/
@[simp] theorem kt_none_int : kitB "NoneType" "int" = some false := by kernel_rfl
@[simp] theorem kt_none_bool : kitB "NoneType" "bool" = some false := by kernel_rfl
@[simp] theorem kt_none_str : kitB "NoneType" "str" = some false := by kernel_rfl
@[simp] theorem kt_none_list : kitB "NoneType" "list" = some false := by kernel_rfl
@[simp] theorem kt_none_tuple : kitB "NoneType" "tuple" = some false := by kernel_rfl
@[simp] theorem kt_none_dict : kitB "NoneType" "dict" = some false := by kernel_rfl
@[simp] theorem kt_bool_int : kitB "bool" "int" = some true := by kernel_rfl
@[simp] theorem kt_bool_bool : kitB "bool" "bool" = some true := by kernel_rfl
@[simp] theorem kt_bool_str : kitB "bool" "str" = some false := by kernel_rfl
@[simp] theorem kt_bool_list : kitB "bool" "list" = some false := by kernel_rfl
@[simp] theorem kt_bool_tuple : kitB "bool" "tuple" = some false := by kernel_rfl
@[simp] theorem kt_bool_dict : kitB "bool" "dict" = some false := by kernel_rfl
@[simp] theorem kt_int_int : kitB "int" "int" = some true := by kernel_rfl
@[simp] theorem kt_int_bool : kitB "int" "bool" = some false := by kernel_rfl
@[simp] theorem kt_int_str : kitB "int" "str" = some false := by kernel_rfl
@[simp] theorem kt_int_list : kitB "int" "list" = some false := by kernel_rfl
@[simp] theorem kt_int_tuple : kitB "int" "tuple" = some false := by kernel_rfl
@[simp] theorem kt_int_dict : kitB "int" "dict" = some false := by kernel_rfl
@[simp] theorem kt_str_int : kitB "str" "int" = some false := by kernel_rfl
@[simp] theorem kt_str_bool : kitB "str" "bool" = some false := by kernel_rfl
@[simp] theorem kt_str_str : kitB "str" "str" = some true := by kernel_rfl
@[simp] theorem kt_str_list : kitB "str" "list" = some false := by kernel_rfl
@[simp] theorem kt_str_tuple : kitB "str" "tuple" = some false := by kernel_rfl
@[simp] theorem kt_str_dict : kitB "str" "dict" = some false := by kernel_rfl
@[simp] theorem kt_list_int : kitB "list" "int" = some false := by kernel_rfl
@[simp] theorem kt_list_bool : kitB "list" "bool" = some false := by kernel_rfl
@[simp] theorem kt_list_str : kitB "list" "str" = some false := by kernel_rfl
@[simp] theorem kt_list_list : kitB "list" "list" = some true := by kernel_rfl
@[simp] theorem kt_list_tuple : kitB "list" "tuple" = some false := by kernel_rfl
@[simp] theorem kt_list_dict : kitB "list" "dict" = some false := by kernel_rfl
@[simp] theorem kt_tuple_int : kitB "tuple" "int" = some false := by kernel_rfl
@[simp] theorem kt_tuple_bool : kitB "tuple" "bool" = some false := by kernel_rfl
@[simp] theorem kt_tuple_str : kitB "tuple" "str" = some false := by kernel_rfl
@[simp] theorem kt_tuple_list : kitB "tuple" "list" = some false := by kernel_rfl
@[simp] theorem kt_tuple_tuple : kitB "tuple" "tuple" = some true := by kernel_rfl
@[simp] theorem kt_tuple_dict : kitB "tuple" "dict" = some false := by kernel_rfl
@[simp] theorem kt_dict_int : kitB "dict" "int" = some false := by kernel_rfl
@[simp] theorem kt_dict_bool : kitB "dict" "bool" = some false := by kernel_rfl
@[simp] theorem kt_dict_str : kitB "dict" "str" = some false := by kernel_rfl
@[simp] theorem kt_dict_list : kitB "dict" "list" = some false := by kernel_rfl
@[simp] theorem kt_dict_tuple : kitB "dict" "tuple" = some false := by kernel_rfl
@[simp] theorem kt_dict_dict : kitB "dict" "dict" = some true := by kernel_rfl
@[simp] theorem ty_n : tyD .none = "NoneType" := id rfl
@[simp] theorem ty_b (b : Bool) : tyD (.bool b) = "bool" := id rfl
@[simp] theorem ty_i (i : Int) : tyD (.int i) = "int" := id rfl
@[simp] theorem ty_s (s : Str) : tyD (.str s) = "str" := id rfl
@[simp] theorem ty_l (ds : List D) : tyD (.list ds) = "list" := id rfl
@[simp] theorem ty_t (ds : List D) : tyD (.tuple ds) = "tuple" := id rfl
@[simp] theorem ty_d (es : List (D × D)) : tyD (.dict es) = "dict" := id rfl
/-! ### comprehensions over values of one kind -/
theorem fLc_typ {α : Type} {vs : List Nat} {it : Lv} {s : Gv} {t : Tv} {f : Vv} {en en1 w : En} (enc : α → D) (as : List α) (c : α → Bool) (g : α → D) (h1 : it en = some (as.map enc, en1)) (hw : wipeE en1 vs = w) (hv : wipeE w vs = w) (hl : as.length ≤ sizeLine)
    (h : ∀ a ∈ as, ∃ e, s (enc a) w = some e ∧ t e = some (c a, e) ∧ (c a = true → f e = some (g a, e)) ∧ wipeE e vs = w) : fLc vs it s t f en = some (.list ((as.filter c).map g), true, backE en1 w vs) := by
  have go : ∀ bs : List α, (∀ a ∈ bs, a ∈ as) → lcL vs s t f (bs.map enc) w = some ((bs.filter c).map g, w) := by
    intro bs
    induction bs with
    | nil => intro _; rfl
    | cons a bs ih =>
      intro hb
      obtain ⟨e, q1, q2, q3, q4⟩ := h a (hb a (List.mem_cons_self ..))
      have ih' := ih fun b hb' => hb b (List.mem_cons_of_mem _ hb')
      rw [List.map_cons]
      show ((s (enc a) (wipeE w vs)).bind _) = _
      rw [hv, q1]
      show ((t e).bind _) = _
      rw [q2]
      by_cases hc : c a = true
      · show (if c a = true then (f e).bind _ else _) = _
        rw [if_pos hc, q3 hc]
        show ((lcL vs s t f (bs.map enc) (wipeE e vs)).map _) = _
        rw [q4, ih', List.filter_cons_of_pos hc]
        rfl
      · show (if c a = true then _ else lcL vs s t f (bs.map enc) (wipeE e vs)) = _
        rw [if_neg hc, q4, ih', List.filter_cons_of_neg hc]
  exact flc_eq h1 (by rw [hw]; exact go as fun _ h => h) (by
    rw [List.length_map]
    exact Nat.le_trans (List.length_filter_le ..) hl)
theorem wp_fLc {α : Type} {vs : List Nat} {it : Lv} {s : Gv} {t : Tv} {f : Vv} {en en1 : En} {Q : D × Bool × En → Prop} (enc : α → D) (as : List α) (c : α → Bool) (g : α → D) (h1 : it en = some (as.map enc, en1)) (hv : wipeE (wipeE en1 vs) vs = wipeE en1 vs) (hl : as.length ≤ sizeLine)
    (h : ∀ a ∈ as, ∃ e, s (enc a) (wipeE en1 vs) = some e ∧ t e = some (c a, e) ∧ (c a = true → f e = some (g a, e)) ∧ wipeE e vs = wipeE en1 vs) (q : Q (.list ((as.filter c).map g), true, backE en1 (wipeE en1 vs) vs)) : Wp (fLc vs it s t f en) Q :=
  ⟨_, fLc_typ enc as c g h1 rfl hv hl h, q⟩
@[simp] theorem filt_true {α : Type} (l : List α) : l.filter (fun _ => true) = l := List.filter_eq_self.mpr fun _ _ => rfl
@[simp] theorem filt_false {α : Type} (l : List α) : l.filter (fun _ => false) = [] := List.filter_eq_nil_iff.mpr fun _ _ h => by cases h
theorem wp_val {α : Type} {x : Option α} {y : α} (h : Wp x fun z => z = y) : x = some y := by
  obtain ⟨z, e, rfl⟩ := h
  exact e
theorem wp_of {α : Type} {x : Option α} {y : α} {Q : α → Prop} (h : x = some y) (q : Q y) : Wp x Q := ⟨y, h, q⟩
end Fx
/-! PxT: loops that look for one; ranges; lists of numbers. -/
namespace Fx
open PySem PySem.Spec L2
theorem for_look {α : Type} {s : Gv} {b : Sv} {Q : Out × En → Prop} (enc : α → D) (p : α → Bool) (r : α → D × Bool) (I : En → Prop) : ∀ (as : List α) (en : En), I en →
    (∀ a ∈ as, ∀ en, I en → Wp (s (enc a) en) fun e1 => Wp (b e1) fun y => if p a = true then y.1 = .rt (r a).1 (r a).2 ∧ I y.2 else (y.1 = .nx ∨ y.1 = .ct) ∧ I y.2) →
    (∀ a, as.find? p = some a → ∀ en, I en → Q (.rt (r a).1 (r a).2, en)) → (as.find? p = none → ∀ en, I en → Q (.nx, en)) → Wp (forL s b (as.map enc) en) Q
  | [], en, h, _, _, q => ⟨_, rfl, q rfl en h⟩
  | a :: as, en, h, st, q1, q2 => by
    obtain ⟨e1, p1, y, p2, z⟩ := st a (List.mem_cons_self ..) en h
    obtain ⟨o, e2⟩ := y
    rw [List.map_cons]
    refine wp_bind.mpr ⟨e1, p1, wp_bind.mpr ⟨_, p2, ?_⟩⟩
    by_cases hp : p a = true
    · rw [if_pos hp] at z
      obtain ⟨z1, z2⟩ := z
      dsimp only at z1
      subst z1
      exact ⟨_, rfl, q1 a (List.find?_cons_of_pos hp) e2 z2⟩
    · rw [if_neg hp] at z
      obtain ⟨z1, z2⟩ := z
      have ih := for_look enc p r I as e2 z2 (fun a ha => st a (List.mem_cons_of_mem _ ha)) (fun a ha => q1 a (by rw [List.find?_cons_of_neg hp]; exact ha)) (fun ha => q2 (by rw [List.find?_cons_of_neg hp]; exact ha))
      rcases z1 with z1 | z1 <;> (dsimp only at z1; subst z1; exact ih)
def iD (k : Nat) : D := .int (k : Int)
theorem range1_i {n : Nat} (h : n ≤ 1000000) : range1D [.int (n : Int)] = some ((List.range n).map iD) := by
  rw [range1_nat (by omega)]
  unfold rngD
  exact congrArg some (List.map_congr_left fun i _ => by simp [iD])
theorem range2_i {a b : Nat} (ha : a ≤ 1000000) (hb : b ≤ 1000000) : range2D [.int (a : Int), .int (b : Int)] = some ((List.range' a (b - a)).map iD) := by
  rw [range2D_e, if_pos (by rw [inLine_le (by omega) (by omega), inLine_le (by omega) (by omega)]; rfl), show ((b : Int) - (a : Int)).toNat = b - a by omega]
  unfold rngD
  rw [List.range'_eq_map_range, List.map_map]
  refine congrArg some (List.map_congr_left fun i _ => ?_)
  simp [iD]
theorem range2_i1 {a b : Nat} (ha : a + 1 ≤ 1000000) (hb : b ≤ 1000000) : range2D [.int ((a : Int) + 1), .int (b : Int)] = some ((List.range' (a + 1) (b - (a + 1))).map iD) := range2_i ha hb
theorem rev_range (n : Nat) : (List.range n).map (fun j => n - 1 - j) = (List.range n).reverse := by
  refine List.ext_getElem (by simp) fun i h1 h2 => ?_
  simp at h1
  simp
theorem range3_i {n : Nat} (h : n ≤ 1000000) : range3D [.int ((n : Int) - 1), .int (-1), .int (-1)] = some ((List.range n).reverse.map iD) := by
  show (if (inLine ((n : Int) - 1) && inLine (-1) && decide ((-1 : Int) = -1)) = true then some (rngD ((n : Int) - 1) (-1) (((n : Int) - 1) - (-1)).toNat) else none) = _
  have h1 : inLine ((n : Int) - 1) = true := by
    unfold inLine
    rw [Bool.and_eq_true, decide_eq_true_eq, decide_eq_true_eq]
    constructor <;> omega
  have h2 : inLine (-1) = true := by
    unfold inLine
    rw [Bool.and_eq_true, decide_eq_true_eq, decide_eq_true_eq]
    constructor <;> omega
  rw [h1, h2, if_pos (by simp), show (((n : Int) - 1) - (-1)).toNat = n by omega]
  unfold rngD
  rw [← rev_range, List.map_map]
  refine congrArg some (List.map_congr_left fun i hi => ?_)
  have := List.mem_range.mp hi
  show PyData.int _ = PyData.int _
  congr 1
  simp only [Function.comp]
  omega
theorem sh_iD (k : Nat) : Sh 0 (iD k) := Sh.int _
theorem ints_ne (ks : List Nat) : dNe (.list (ks.map iD)) (.list []) = some (.bool (!ks.isEmpty), false) := by
  rw [dNe_of (Sh.lst (k := 0) fun d hd => by
    obtain ⟨i, _, rfl⟩ := List.mem_map.mp hd
    exact sh_iD i) (Sh.lst (k := 0) fun d hd => by cases hd) (by omega) (by omega), eqv_nil]
  cases ks <;> rfl
theorem ints_eq (ks : List Nat) : dEq (.list (ks.map iD)) (.list []) = some (.bool ks.isEmpty, false) := by
  rw [dEq_of (Sh.lst (k := 0) fun d hd => by
    obtain ⟨i, _, rfl⟩ := List.mem_map.mp hd
    exact sh_iD i) (Sh.lst (k := 0) fun d hd => by cases hd) (by omega) (by omega), eqv_nil]
  cases ks <;> rfl
theorem filt_head {α : Type} (p : α → Bool) (l : List α) : (l.filter p).head? = l.find? p := List.head?_filter
theorem filt_last {α : Type} (p : α → Bool) (l : List α) : (l.filter p).getLast? = l.reverse.find? p := by
  rw [← filt_head, List.filter_reverse, List.head?_reverse]
/-- xs[0] if xs != [] else .. -/
theorem wp_first {i : Nat} {Y : Ev} {x : Option (D × Fl)} {en : En} {ks : List Nat} {f : Fl} {Q : D × Bool × En → Prop} (h : (x :: en)[i]? = some (some (.list (ks.map iD), f)))
    (q1 : ∀ k, ks.head? = some k → Q (iD k, false, x :: en)) (q2 : ks.head? = none → Wp (Y (x :: en)) Q) :
    Wp (fIf (tB1 (f2 (fSlot i) (toO (fLst (lNil))) (dNe))) (f2 (fSlot i) (svO (fC (.int 0))) dIxA) Y (x :: en)) Q := by
  have hp : peek (x :: en) i = some (.list (ks.map iD)) := by unfold peek; rw [h]
  have e1 := ints_ne ks
  cases ks with
  | nil =>
    simp at e1 hp
    simp [hp, e1]
    exact q2 rfl
  | cons k ks =>
    simp at e1 hp
    simp [hp, e1]
    exact q1 k rfl
/-- xs[-1] if xs != [] else .. -/
theorem wp_lastI {i : Nat} {Y : Ev} {x : Option (D × Fl)} {en : En} {ks : List Nat} {f : Fl} {Q : D × Bool × En → Prop} (h : (x :: en)[i]? = some (some (.list (ks.map iD), f)))
    (q1 : ∀ k, ks.getLast? = some k → Q (iD k, false, x :: en)) (q2 : ks.getLast? = none → Wp (Y (x :: en)) Q) :
    Wp (fIf (tB1 (f2 (fSlot i) (toO (fLst (lNil))) (dNe))) (f2 (fSlot i) (toO (f1 (svO (fC (.int 1))) dNeg)) dIxA) Y (x :: en)) Q := by
  have hp : peek (x :: en) i = some (.list (ks.map iD)) := by unfold peek; rw [h]
  have e1 := ints_ne ks
  rcases List.eq_nil_or_concat ks with rfl | ⟨js, k, rfl⟩
  · simp at e1 hp
    simp [hp, e1]
    exact q2 rfl
  · rw [List.concat_eq_append] at *
    simp at e1 hp
    simp [hp, e1]
    exact q1 k (by simp)
theorem dEq_bool (a b : Bool) : dEq (.bool a) (.bool b) = some (.bool (decide (a = b)), false) := by
  rw [dEq_of (Sh.bool a) (Sh.bool b) (by omega) (by omega)]
  cases a <;> cases b <;> simp [PyData.eqv]
theorem while_run {t : Tv} {b : Sv} (I : Nat → En → Prop) {Q : Out × En → Prop}
    (step : ∀ n en, I n en → (t en = some (false, en) ∧ Q (.nx, en)) ∨ (t en = some (true, en) ∧ ∃ m, n = m + 1 ∧ Wp (b en) fun y => match y.1 with
      | .nx => I m y.2
      | .ct => I m y.2
      | .bk => Q (.nx, y.2)
      | .rt d c => Q (.rt d c, y.2))) (n : Nat) (en : En) (f : Nat) (h : I n en) (hf : n < f) : Wp (whileL t b f en) Q :=
  while_inv I (fun n en h => by
    rcases step n en h with ⟨e, q⟩ | ⟨e, m, hm, q⟩
    · refine ⟨_, e, ?_⟩
      show (if false = true then _ else _)
      rw [if_neg (fun z => by cases z)]
      exact q
    · refine ⟨_, e, ?_⟩
      show (if true = true then _ else _)
      rw [if_pos rfl]
      exact ⟨m, hm, q⟩) n en f h hf
/-- a comprehension whose iterator writes nothing -/
theorem wp_lcS {α : Type} {vs : List Nat} {it : Lv} {s : Gv} {t : Tv} {f : Vv} {en : En} {Q : D × Bool × En → Prop} (enc : α → D) (as : List α) (c : α → Bool) (g : α → D) (h1 : it en = some (as.map enc, en)) (hv : wipeE (wipeE en vs) vs = wipeE en vs) (hl : as.length ≤ 16777216)
    (h : ∀ a ∈ as, ∃ e, s (enc a) (wipeE en vs) = some e ∧ t e = some (c a, e) ∧ (c a = true → f e = some (g a, e)) ∧ wipeE e vs = wipeE en vs) (q : Q (.list ((as.filter c).map g), true, backE en (wipeE en vs) vs)) : Wp (fLc vs it s t f en) Q :=
  wp_fLc enc as c g h1 hv (by rw [sl_ok]; exact hl) h q
theorem itR_s {a : Av} {g : List D → Option (List D)} {en : En} {hs : List Hd} {ds rs : List D} (h1 : a en = some (hs, en)) (h2 : lates en hs = some ds) (h3 : g ds = some rs) : itR a g en = some (rs, en) := itR_at h1 h2 h3
/-! ### what a law holds alike -/
inductive Al : Nat → D → Prop
  | non {n : Nat} : Al n .none
  | bl {n : Nat} (b : Bool) : Al n (.bool b)
  | int {n : Nat} (i : Int) : Al n (.int i)
  | str {n : Nat} {x : Str} : PyData.strOk x = true → Al n (.str x)
  | tup {n : Nat} {ds : List D} : (∀ d ∈ ds, Al n d) → ds.length ≤ 100000 → Al (n + 1) (.tuple ds)
theorem Al.nil {n : Nat} : Al (n + 1) (.tuple []) := .tup (fun d hd => by cases hd) (by simp)
theorem Al.two {n : Nat} {a b : D} (h1 : Al n a) (h2 : Al n b) : Al (n + 1) (.tuple [a, b]) := .tup (fun d hd => by
  simp only [List.mem_cons, List.not_mem_nil, or_false] at hd
  rcases hd with rfl | rfl <;> assumption) (by simp)
theorem Al.three {n : Nat} {a b c : D} (h1 : Al n a) (h2 : Al n b) (h3 : Al n c) : Al (n + 1) (.tuple [a, b, c]) := .tup (fun d hd => by
  simp only [List.mem_cons, List.not_mem_nil, or_false] at hd
  rcases hd with rfl | rfl | rfl <;> assumption) (by simp)
theorem Al.four {n : Nat} {a b c e : D} (h1 : Al n a) (h2 : Al n b) (h3 : Al n c) (h4 : Al n e) : Al (n + 1) (.tuple [a, b, c, e]) := .tup (fun d hd => by
  simp only [List.mem_cons, List.not_mem_nil, or_false] at hd
  rcases hd with rfl | rfl | rfl | rfl <;> assumption) (by simp)
theorem Al.map {α : Type} {n : Nat} {f : α → D} {as : List α} (h : ∀ a ∈ as, Al n (f a)) (hl : as.length ≤ 100000) : Al (n + 1) (.tuple (as.map f)) := .tup (fun d hd => by
  obtain ⟨a, ha, rfl⟩ := List.mem_map.mp hd
  exact h a ha) (by simpa using hl)
theorem Al.mono {n m : Nat} {d : D} (h : Al n d) : n ≤ m → Al m d := by
  induction h generalizing m with
  | non => intro _; exact .non
  | bl b => intro _; exact .bl b
  | int i => intro _; exact .int i
  | str h => intro _; exact .str h
  | tup h hl ih =>
    intro hm
    obtain ⟨p, rfl⟩ : ∃ p, m = p + 1 := ⟨m - 1, by omega⟩
    exact .tup (fun d hd => ih d hd (by omega)) hl
end Fx
namespace Hd
open PySem PySem.Spec L2 Fx
def eW (dr : List Int) (n : Nat) : D := .dict [(.str "draws", .list (dr.map .int)), (.str "at", .int n)]
theorem st1 : ((Str.ofString "draws" : Str) = Str.ofString "at") = False := by
  have : ¬ ((Str.ofString "draws" : Str) = Str.ofString "at") := by decide +kernel
  simp [this]
theorem st2 : ((Str.ofString "at" : Str) = Str.ofString "draws") = False := by
  have : ¬ ((Str.ofString "at" : Str) = Str.ofString "draws") := by decide +kernel
  simp [this]
theorem next_ok (dr : List Int) (n : Nat) (m : Int) (hm : 0 < m) : F__law_next (eW dr n) [.int m] = some (.int (if h : n < dr.length then dr[n] % m else 0), false, eW dr (n + 1)) := by
  by_cases h : n < dr.length
  · have h1 : ¬ ((dr.length : Int) < (n : Int) + 1) := by omega
    simp [F__law_next, b__law_next, e_sSeq, eW, st1, st2, kD, hm, h, h1, Fx.dictGet, Fx.dictPut, atI, ixN]
  · have h1 : ((dr.length : Int) < (n : Int) + 1) := by omega
    simp [F__law_next, b__law_next, e_sSeq, eW, st1, st2, kD, hm, h, h1, Fx.dictGet, Fx.dictPut, atI, ixN]
def Ok997 (dr : List Int) : Prop := ∀ x ∈ dr, 0 ≤ x ∧ x < 997
theorem Ok997.snoc {dr : List Int} (h : Ok997 dr) (i : Int) : Ok997 (dr ++ [i % 997]) := fun x hx => by
  rcases List.mem_append.mp hx with hx | hx
  · exact h x hx
  · rw [List.mem_singleton.mp hx]
    omega
def IDr (ns : List Int) (many : Nat) (left : Nat) (en : En) : Prop := ∃ (dr : List Int) (mixed : Int) (x4 x5 x6 x7 : Option (D × Bool)), en = [some (.list (ns.map .int), .sh), some (.int many, .sh), some (.list (dr.map .int), .own), some (.int mixed, .sh), jk x4, jk x5, jk x6, jk x7] ∧ Ok997 dr ∧ dr.length + left ≤ 20000 ∧ 0 ≤ mixed ∧ mixed < 65537
theorem rng_nil (n : Nat) : rngD 0 1 n = (List.range n).map fun (i : Nat) => .int (i : Int) := by
  unfold rngD
  exact List.map_congr_left fun i _ => by simp
theorem rng_mem {n : Nat} {d : D} (h : d ∈ rngD 0 1 n) : ∃ k : Nat, d = .int k ∧ k < n := by
  rw [rng_nil] at h
  obtain ⟨i, h1, h2⟩ := List.mem_map.mp h
  exact ⟨i, h2.symm, List.mem_range.mp h1⟩
theorem rng_len (n : Nat) : (rngD 0 1 n).length = n := by rw [rng_nil]; simp
theorem atI_map {ns : List Int} {k : Nat} (h : k < ns.length) : atI (ns.map PyData.int) (k : Int) = some (.int ns[k]) := by
  simp [atI, ixN, h]
theorem app_int (dr : List Int) (i : Int) : dr.map PyData.int ++ [.int i] = (dr ++ [i]).map PyData.int := by simp
def IIn (ns : List Int) (many L : Nat) (mixed : Int) (x4 x5 : Option (D × Bool)) (en : En) : Prop := ∃ (dr : List Int) (rest : Int) (x7 : Option (D × Bool)), en = [some (.list (ns.map .int), .sh), some (.int many, .sh), some (.list (dr.map .int), .own), some (.int mixed, .sh), jk x4, jk x5, some (.int rest, .sh), jk x7] ∧ Ok997 dr ∧ dr.length + L ≤ 20000
theorem draws_in (ns : List Int) (many : Nat) (L : Nat) (mixed : Int) (x4 x5 : Option (D × Bool)) (en : En) (h : IIn ns many (L + 60) mixed x4 x5 en) :
    Wp (forL (gN 7) (sIf (tB1 (f2 (fSlot 6) (svO (fC (.int 0))) (isI iGt))) (sSeq (sExpr (fMut 2 isLst (lCons (toV (f2 (toO (fN (aCons (fSlot 6) (aNil)) dInt)) (svO (fC (.int 997))) (isI iMod))) (lNil)) mAppend)) (sSet 6 (f2 (fSlot 6) (svO (fC (.int 997))) (isI iDiv)))) (sNx)) (rngD 0 1 60) en) fun y => y.1 = .nx ∧ IIn ns many L mixed x4 x5 y.2 := by
  refine for_inv (fun ds en => IIn ns many (L + ds.length) mixed x4 x5 en) ?_ ?_ _ _ (by rw [rng_len]; exact h)
  · rintro d r en ⟨dr', rest', x7, rfl, q1, q2⟩
    rw [List.length_cons] at q2
    have hz : dr'.length < 16777216 := by omega
    by_cases hr : 0 < rest'
    · simp [hr, hz]
      refine later_i ?_
      simp
      exact ⟨dr' ++ [rest' % 997], _, some (d, false), by rw [app_int]; rfl, q1.snoc _, by simp; omega⟩
    · simp [hr]
      exact ⟨dr', _, some (d, false), rfl, q1, by omega⟩
  · intro en h
    refine ⟨rfl, ?_⟩
    rw [List.length_nil, Nat.add_zero] at h
    exact h
theorem draws_ok (ns : List Int) (hn : ns.length ≤ 63) (many : Nat) (hm : many ≤ 10000) : Wp (F__law_draws [.list (ns.map .int), .int many]) fun y => ∃ dr : List Int, Ok997 dr ∧ y = (.list (dr.map .int), true) := by
  show Wp (mk0 8 b__law_draws _) _
  rw [mk0_e, wp_bind]
  show Wp (b__law_draws [some (.list (ns.map .int), .sh), some (.int many, .sh), none, none, none, none, none, none]) _
  unfold b__law_draws
  have e1 := range1_nat (n := ns.length) (by omega)
  have e2 := range1_nat (n := many) (by omega)
  simp
  refine later_i ?_
  simp
  refine later_i ?_
  simp [e1]
  refine wp_mono (for_inv (fun ds en => IDr ns many (many + 62 * ds.length) en ∧ ∀ d ∈ ds, ∃ k : Nat, d = .int k ∧ k < ns.length) (Q := fun y => y.1 = .nx ∧ IDr ns many many y.2) ?_ ?_ _ _ ?_) ?_
  · rintro d r en ⟨⟨dr, mixed, x4, x5, x6, x7, rfl, h1, h2, h3, h4⟩, hd⟩
    obtain ⟨k, rfl, hk⟩ := hd d (List.mem_cons_self ..)
    rw [List.length_cons] at h2
    have hb : mixed.natAbs < 18446744073709551616 := by omega
    simp [atI_map hk]
    refine later_i ?_
    generalize (if ns[k] < 0 then -ns[k] else ns[k]) = cell
    simp [hb]
    have m1 : (0:Int) ≤ (mixed * 48271 + cell % 1000003 + k) % 65537 ∧ (mixed * 48271 + cell % 1000003 + k) % 65537 < 65537 := by omega
    generalize (mixed * 48271 + cell % 1000003 + (k : Int)) % 65537 = mixed' at m1 ⊢
    refine later_i ?_
    simp
    refine later_i ?_
    have hb' : mixed'.natAbs < 18446744073709551616 := by omega
    have hz : dr.length < 16777216 := by omega
    have hz' : dr.length + 1 < 16777216 := by omega
    simp
    by_cases hc : 1000000000000000000 ≤ cell
    · simp [hc]
      refine later_i ?_
      simp [inLine_le]
      refine wp_mono (draws_in ns many (many + 62 * r.length) mixed' (some (.int k, false)) (some (.int cell, false)) _ ⟨dr, cell, x7, rfl, h1, by omega⟩) ?_
      rintro ⟨o, en⟩ ⟨e, dr', rest', x7', e2, q1, q2⟩
      dsimp only at e e2
      subst e
      subst e2
      exact ⟨⟨dr', mixed', _, _, some (.int rest', false), _, rfl, q1, q2, m1.1, m1.2⟩, fun d hd' => hd d (List.mem_cons_of_mem _ hd')⟩
    · simp [hc, hz]
      refine later_i ?_
      simp [hb', hz']
      refine later_i ?_
      simp [inLine_le]
      refine wp_mono (draws_in ns many (many + 62 * r.length) mixed' (some (.int k, false)) (some (.int cell, false)) _ ⟨dr ++ [cell % 997] ++ [(mixed' * 69621 + 5) % 65521 % 997], 0, x7, by simp [jk_sh], (h1.snoc _).snoc _, by simp; omega⟩) ?_
      rintro ⟨o, en⟩ ⟨e, dr', rest', x7', e2, q1, q2⟩
      dsimp only at e e2
      subst e
      subst e2
      exact ⟨⟨dr', mixed', _, _, some (.int rest', false), _, rfl, q1, q2, m1.1, m1.2⟩, fun d hd' => hd d (List.mem_cons_of_mem _ hd')⟩
  · rintro en ⟨h, _⟩
    exact ⟨rfl, h⟩
  · exact ⟨⟨[], 7, none, none, none, none, rfl, fun x hx => (by cases hx), by rw [rng_len]; simp; omega, by omega, by omega⟩, fun d hd => rng_mem hd⟩
  · rintro ⟨o, en⟩ ⟨e, dr, mixed, x4, x5, x6, x7, e2, h1, h2, h3, h4⟩
    dsimp only at e e2
    subst e
    subst e2
    refine later_i ?_
    simp [e2]
    refine wp_mono (for_inv (fun ds en => IDr ns many ds.length en ∧ ∀ d ∈ ds, ∃ k : Nat, d = .int k ∧ k < many) (Q := fun y => y.1 = .nx ∧ IDr ns many 0 y.2) ?_ ?_ _ _ ?_) ?_
    · rintro d r en ⟨⟨dr, mixed, x4, x5, x6, x7, rfl, h1, h2, h3, h4⟩, hd⟩
      obtain ⟨k, rfl, hk⟩ := hd d (List.mem_cons_self ..)
      rw [List.length_cons] at h2
      have hb : mixed.natAbs < 18446744073709551616 := by omega
      have hz : dr.length < 16777216 := by omega
      simp [hb]
      refine later_i ?_
      simp [hz]
      exact ⟨⟨dr ++ [(mixed * 16807 + k + 1) % 65537 % 997], _, some (.int k, false), x5, x6, x7, by rw [app_int]; rfl, h1.snoc _, by simp; omega, by omega, by omega⟩, fun d hd' => hd d (List.mem_cons_of_mem _ hd')⟩
    · rintro en ⟨h, _⟩
      exact ⟨rfl, h⟩
    · exact ⟨⟨dr, mixed, x4, x5, x6, x7, rfl, h1, by rw [rng_len]; exact h2, h3, h4⟩, fun d hd => rng_mem hd⟩
    · rintro ⟨o, en⟩ ⟨e, dr, mixed, x4, x5, x6, x7, e2, h1, h2, h3, h4⟩
      dsimp only at e e2
      subst e
      subst e2
      refine later_i ?_
      simp [dSl, cutD]
      exact ⟨(dr.drop (HT.sIx dr.length 0 none)).take (HT.sIx dr.length dr.length (some (many : Int)) - HT.sIx dr.length 0 none), fun x hx => h1 x (List.mem_of_mem_drop (List.mem_of_mem_take hx)), by simp [List.map_take, List.map_drop]⟩
theorem next_ex {dr : List Int} (h : Ok997 dr) (n : Nat) (m : Int) (hm : 0 < m) : ∃ v, 0 ≤ v ∧ v < m ∧ F__law_next (eW dr n) [.int m] = some (.int v, false, eW dr (n + 1)) := by
  refine ⟨_, ?_, ?_, next_ok dr n m hm⟩
  · split
    · exact Int.emod_nonneg _ (by omega)
    · omega
  · split
    · exact Int.emod_lt_of_pos _ hm
    · exact hm
theorem next_nat {dr : List Int} (h : Ok997 dr) (n m : Nat) (hm : 0 < m) : ∃ v : Nat, v < m ∧ F__law_next (eW dr n) [.int (m : Int)] = some (.int v, false, eW dr (n + 1)) := by
  obtain ⟨v, v0, v1, e⟩ := next_ex h n m (by omega)
  exact ⟨v.toNat, by omega, by rw [e, Int.toNat_of_nonneg v0]⟩
theorem at_nat {ds : List D} {n : Nat} {d : D} (h : ds[n]? = some d) : atI ds (n : Int) = some d := by
  have hn := (List.getElem?_eq_some_iff.mp h).1
  unfold atI ixN
  rw [if_pos (by omega), if_pos (by omega), Int.toNat_natCast]
  exact h
@[simp] theorem at0 {d : D} {ds : List D} : atI (d :: ds) 0 = some d := at_nat (n := 0) rfl
@[simp] theorem at1 {d e : D} {ds : List D} : atI (d :: e :: ds) 1 = some e := at_nat (n := 1) rfl
@[simp] theorem at2 {d e f : D} {ds : List D} : atI (d :: e :: f :: ds) 2 = some f := at_nat (n := 2) rfl
@[simp] theorem e_fMeth (p : Ov) (c : D → Bool) (l : Av) (g : D → List D → Option (D × Bool)) (x : Option (D × Fl)) (en : En) : fMeth p c l g (x :: en) = (p (x :: en)).bind fun x => (x.1.late x.2).bind fun d0 => if c d0 = true then (l x.2).bind fun y => (x.1.late y.2).bind fun d => (lates y.2 y.1).bind fun ds => (g d ds).map fun z => (z.1, z.2, y.2) else none := id rfl
theorem e_itZ (l : Lv) (x : Option (D × Fl)) (en : En) : itZ l (x :: en) = (l (x :: en)).bind fun x => match x.1 with
  | [.list ds, .list es] => some (zipD ds es, x.2)
  | _ => none := id rfl
@[simp] theorem isBD_b (c b : Bool) : isBD c (.bool b) = (b == c) := id rfl
@[simp] theorem isBD_n (c : Bool) : isBD c .none = false := id rfl
end Hd
namespace Hd
open PySem PySem.Spec L2 Fx
/-! ### tables of numbers -/
def tD (ks : List (Key × Int)) : List (D × D) := ks.map fun q => (kD q.1, .int q.2)
def tget (ks : List (Key × Int)) (k : Key) : Int := ((ks.find? fun q => decide (q.1 = k)).map (·.2)).getD 0
def tput (ks : List (Key × Int)) (k : Key) (i : Int) : List (Key × Int) := if (ks.any fun q => decide (q.1 = k)) = true then ks.map (fun q => if q.1 = k then (q.1, i) else q) else ks ++ [(k, i)]
theorem dictGet_tD (ks : List (Key × Int)) (k : Key) : Fx.dictGet (tD ks) k = (ks.find? fun q => decide (q.1 = k)).map fun q => .int q.2 := by
  unfold Fx.dictGet tD
  rw [List.find?_map, Option.map_map]
  have : ((fun p : D × D => decide (keyOf p.1 = some k)) ∘ fun q : Key × Int => (kD q.1, PyData.int q.2)) = fun q => decide (q.1 = k) := funext fun q => by
    simp [keyOf_kD]
  rw [this]
  rfl
theorem dictPut_tD (ks : List (Key × Int)) (k : Key) (i : Int) : Fx.dictPut (tD ks) k (.int i) = tD (tput ks k i) := by
  unfold Fx.dictPut tD tput
  have : ((fun p : D × D => decide (keyOf p.1 = some k)) ∘ fun q : Key × Int => (kD q.1, PyData.int q.2)) = fun q => decide (q.1 = k) := funext fun q => by
    simp [keyOf_kD]
  rw [List.any_map, this]
  split
  · rw [List.map_map, List.map_map]
    refine List.map_congr_left fun q _ => ?_
    simp only [Function.comp, keyOf_kD, Option.some.injEq]
    split <;> rfl
  · rw [List.map_append]
    rfl
theorem dGetM_tD (ks : List (Key × Int)) {x : D} {k : Key} (hk : keyOf x = some k) : dGetM (.dict (tD ks)) [x, .int 0] = some (.int (tget ks k), false) := by
  show ((keyOf x).bind _) = _
  rw [hk, Option.bind_some, dictGet_tD]
  unfold tget
  cases (ks.find? fun q => decide (q.1 = k)) <;> rfl
@[simp] theorem dGetM_tDi (ks : List (Key × Int)) (i : Int) : dGetM (.dict (tD ks)) [.int i, .int 0] = some (.int (tget ks (.inl i)), false) := dGetM_tD ks rfl
@[simp] theorem dGetM_tDs (ks : List (Key × Int)) (i : Str) : dGetM (.dict (tD ks)) [.str i, .int 0] = some (.int (tget ks (.inr i)), false) := dGetM_tD ks rfl
theorem dictGet_mem {ks : List (Key × Int)} {k : Key} (h : k ∈ ks.map (·.1)) : Fx.dictGet (tD ks) k = some (.int (tget ks k)) := by
  rw [dictGet_tD]
  unfold tget
  obtain ⟨q, hq, rfl⟩ := List.mem_map.mp h
  cases e : ks.find? fun p => decide (p.1 = q.1) with
  | none => exact absurd (List.find?_eq_none.mp e q hq) (by simp)
  | some p => rfl
def tmk (ks : List (Key × Int)) : List (Key × Int) := ks.foldl (fun a q => tput a q.1 q.2) []
theorem mergeD_tD : ∀ (ks a : List (Key × Int)), mergeD (tD a) (ks.map fun q => (q.1, .int q.2)) = tD (ks.foldl (fun a q => tput a q.1 q.2) a)
  | [], _ => rfl
  | q :: ks, a => by
    show mergeD (Fx.dictPut (tD a) q.1 (.int q.2)) (ks.map fun q => (q.1, .int q.2)) = _
    rw [dictPut_tD]
    exact mergeD_tD ks _
def eP (q : Key × Int) : D := .tuple [kD q.1, .int q.2]
theorem pairsOf_eP (ks : List (Key × Int)) : pairsOf (ks.map eP) = some (ks.map fun q => (q.1, .int q.2)) := by
  induction ks with
  | nil => rfl
  | cons q ks ih =>
    rw [List.map_cons]
    show ((keyOf (kD q.1)).bind fun k => (pairsOf (ks.map eP)).map fun t => (k, PyData.int q.2) :: t) = _
    rw [keyOf_kD, ih]
    rfl
@[simp] theorem dDict_eP (ks : List (Key × Int)) : dDict [.tuple (ks.map eP)] = some (.dict (tD (tmk ks)), true) := by
  show ((pairsOf (ks.map eP)).map _) = _
  rw [pairsOf_eP]
  show some (PyData.dict (mergeD (tD []) _), true) = _
  rw [mergeD_tD]
  rfl
@[simp] theorem dDict_ePl (ks : List (Key × Int)) : dDict [.list (ks.map eP)] = some (.dict (tD (tmk ks)), true) := by
  show ((pairsOf (ks.map eP)).map _) = _
  rw [pairsOf_eP]
  show some (PyData.dict (mergeD (tD []) _), true) = _
  rw [mergeD_tD]
  rfl
/-- keys of one kind -/
def KO (ks : List Key) : Prop := (∀ k ∈ ks, ∃ i : Int, k = .inl i) ∨ (∀ k ∈ ks, ∃ x : Str, k = .inr x ∧ PyData.strOk x = true)
theorem tput_keys {ks : List (Key × Int)} {k : Key} {i : Int} {j : Key} (h : j ∈ (tput ks k i).map (·.1)) : j = k ∨ j ∈ ks.map (·.1) := by
  unfold tput at h
  split at h
  · rw [List.map_map] at h
    obtain ⟨q, hq, e⟩ := List.mem_map.mp h
    refine .inr (List.mem_map.mpr ⟨q, hq, ?_⟩)
    rw [← e]
    simp only [Function.comp]
    split <;> rfl
  · rw [List.map_append, List.mem_append] at h
    rcases h with h | h
    · exact .inr h
    · exact .inl (by simpa using h)
theorem tput_len (ks : List (Key × Int)) (k : Key) (i : Int) : (tput ks k i).length ≤ ks.length + 1 := by
  unfold tput
  split <;> simp
theorem tmk_go : ∀ (ks a : List (Key × Int)) (j : Key), j ∈ (ks.foldl (fun a q => tput a q.1 q.2) a).map (·.1) → j ∈ ks.map (·.1) ∨ j ∈ a.map (·.1)
  | [], _, _, h => .inr h
  | q :: ks, a, j, h => by
    rcases tmk_go ks _ j h with h | h
    · exact .inl (by simp only [List.map_cons, List.mem_cons]; exact .inr h)
    · rcases tput_keys h with h | h
      · exact .inl (by simp [h])
      · exact .inr h
theorem tmk_keys {ks : List (Key × Int)} {j : Key} (h : j ∈ (tmk ks).map (·.1)) : j ∈ ks.map (·.1) := by
  rcases tmk_go ks [] j h with h | h
  · exact h
  · cases h
theorem tmk_len_go : ∀ (ks a : List (Key × Int)), (ks.foldl (fun a q => tput a q.1 q.2) a).length ≤ ks.length + a.length
  | [], _ => by simp
  | q :: ks, a => by
    have h1 := tmk_len_go ks (tput a q.1 q.2)
    have h2 := tput_len a q.1 q.2
    simp only [List.foldl_cons, List.length_cons]
    omega
theorem tmk_len (ks : List (Key × Int)) : (tmk ks).length ≤ ks.length := by
  exact Nat.le_trans (tmk_len_go ks []) (by simp)
def srtK (ks : List Key) : List Key := ks.mergeSort fun a b => PySem.W.dataLe false (fun d : D => d) (kD a) (kD b)
theorem srtD_kD (ks : List Key) : srtD (ks.map kD) = (srtK ks).map kD := by
  unfold srtD srtK
  rw [List.map_mergeSort]
  intro a _ b _
  rfl
theorem srtK_perm (ks : List Key) : (srtK ks).Perm ks := List.mergeSort_perm ks _
theorem sh_key {k : Key} (h : (∃ i : Int, k = .inl i) ∨ ∃ x : Str, k = .inr x ∧ PyData.strOk x = true) : Sh 0 (kD k) := by
  rcases h with ⟨i, rfl⟩ | ⟨x, rfl, h⟩
  · exact Sh.int i
  · exact Sh.str x h
theorem KO.sh {ks : List Key} (h : KO ks) : ∀ k ∈ ks, Sh 0 (kD k) := fun k hk => by
  rcases h with h | h
  · exact sh_key (.inl (h k hk))
  · exact sh_key (.inr (h k hk))
theorem sortOk_keys {ks : List Key} (h : KO ks) (hl : ks.length ≤ sizeLine) : sortOk (ks.map kD) = true := by
  unfold sortOk
  simp only [Bool.and_eq_true, Bool.or_eq_true, List.all_eq_true, decide_eq_true_eq, List.length_map]
  rcases h with h | h
  · refine ⟨⟨⟨hl, fun d hd e he => ?_⟩, .inr fun d hd => ?_⟩, fun d hd => ?_⟩
    · obtain ⟨i, hi, rfl⟩ := List.mem_map.mp hd
      obtain ⟨j, hj, rfl⟩ := List.mem_map.mp he
      obtain ⟨i, rfl⟩ := h i hi
      obtain ⟨j, rfl⟩ := h j hj
      simp [PySem.W.alike, kD]
    · obtain ⟨i, hi, rfl⟩ := List.mem_map.mp hd
      obtain ⟨i, rfl⟩ := h i hi
      rfl
    · obtain ⟨i, hi, rfl⟩ := List.mem_map.mp hd
      obtain ⟨i, rfl⟩ := h i hi
      show 0 < 40
      omega
  · refine ⟨⟨⟨hl, fun d hd e he => ?_⟩, .inr fun d hd => ?_⟩, fun d hd => ?_⟩
    · obtain ⟨i, hi, rfl⟩ := List.mem_map.mp hd
      obtain ⟨j, hj, rfl⟩ := List.mem_map.mp he
      obtain ⟨i, rfl, _⟩ := h i hi
      obtain ⟨j, rfl, _⟩ := h j hj
      simp [PySem.W.alike, kD]
    · obtain ⟨i, hi, rfl⟩ := List.mem_map.mp hd
      obtain ⟨i, rfl, _⟩ := h i hi
      rfl
    · obtain ⟨i, hi, rfl⟩ := List.mem_map.mp hd
      obtain ⟨i, rfl, _⟩ := h i hi
      show 0 < 40
      omega
theorem dSort_tD {ks : List (Key × Int)} (h : KO (ks.map (·.1))) (hl : ks.length ≤ 16777216) : dSort [.dict (tD ks)] = some (.list ((srtK (ks.map (·.1))).map kD), true) := by
  have e : (tD ks).map (·.1) = (ks.map (·.1)).map kD := by
    unfold tD
    rw [List.map_map, List.map_map]
    rfl
  show (if sortOk ((tD ks).map (·.1)) = true ∧ layOk ((tD ks).map (·.1)) = true then _ else _) = _
  rw [e, if_pos ⟨sortOk_keys h (by rw [List.length_map, sl_ok]; exact hl), List.all_eq_true.mpr fun d hd => by
    obtain ⟨k, hk, rfl⟩ := List.mem_map.mp hd
    exact (h.sh k hk).c⟩, srtD_kD]
def froz (ks : List (Key × Int)) : List (Key × Int) := ((srtK (ks.map (·.1))).filter fun k => !decide (tget ks k = 0)).map fun k => (k, tget ks k)
theorem frozen_ok {ks : List (Key × Int)} (h : KO (ks.map (·.1))) (hl : ks.length ≤ 1000) : F_frozen [.dict (tD ks)] = some (.tuple ((froz ks).map eP), false) := by
  have e1 := dSort_tD h (by omega)
  have hp := srtK_perm (ks.map (·.1))
  refine wp_val ?_
  show Wp (mk0 2 b_frozen _) _
  rw [mk0_e, wp_bind]
  show Wp (b_frozen [some (.dict (tD ks), .sh), none]) _
  unfold b_frozen
  simp
  refine wp_fLc (en1 := [some (.dict (tD ks), .sh), none]) kD (srtK (ks.map (·.1))) (fun k => !decide (tget ks k = 0)) (fun k => eP (k, tget ks k)) (by rw [e_itV]; simp [e1]) (by simp) (by rw [hp.length_eq, List.length_map, sl_ok]; omega) (fun k hk => ?_) ?_
  · have hk' := dictGet_mem (hp.mem_iff.mp hk)
    refine ⟨[some (.dict (tD ks), .sh), some (kD k, .sh)], by simp, by simp [keyOf_kD, hk', dNe_int], fun _ => by simp [keyOf_kD, hk', eP], by simp⟩
  · simp [froz, List.map_map, Function.comp_def, backE]
theorem froz_keys {ks : List (Key × Int)} {k : Key} (h : k ∈ (froz ks).map (·.1)) : k ∈ ks.map (·.1) := by
  unfold froz at h
  rw [List.map_map] at h
  obtain ⟨j, hj, e⟩ := List.mem_map.mp h
  have e' : j = k := e
  subst e'
  exact (srtK_perm _).mem_iff.mp ((List.mem_filter.mp hj).1)
theorem froz_len (ks : List (Key × Int)) : (froz ks).length ≤ ks.length := by
  unfold froz
  rw [List.length_map]
  refine Nat.le_trans (List.length_filter_le ..) ?_
  rw [(srtK_perm _).length_eq, List.length_map]
  exact Nat.le_refl _
theorem KO.sub {ks js : List Key} (h : KO ks) (s : ∀ k ∈ js, k ∈ ks) : KO js := by
  rcases h with h | h
  · exact .inl fun k hk => h k (s k hk)
  · exact .inr fun k hk => h k (s k hk)
/-! ### expressions -/
inductive Ex where
  | num (i : Int) | var (x : Str) | cell (e : Ex) | not (e : Ex) | add (a b : Ex) | sub (a b : Ex) | mul (a b : Ex) | less (a b : Ex) | same (a b : Ex)
def eX : Ex → D
  | .num i => .int i
  | .var x => .tuple [.str "var", .str x]
  | .cell e => .tuple [.str "cell", eX e]
  | .not e => .tuple [.str "not", eX e]
  | .add a b => .tuple [.str "add", eX a, eX b]
  | .sub a b => .tuple [.str "sub", eX a, eX b]
  | .mul a b => .tuple [.str "mul", eX a, eX b]
  | .less a b => .tuple [.str "less", eX a, eX b]
  | .same a b => .tuple [.str "same", eX a, eX b]
def dX : Ex → Nat
  | .num _ => 0
  | .var _ => 0
  | .cell e => dX e + 1
  | .not e => dX e + 1
  | .add a b => max (dX a) (dX b) + 1
  | .sub a b => max (dX a) (dX b) + 1
  | .mul a b => max (dX a) (dX b) + 1
  | .less a b => max (dX a) (dX b) + 1
  | .same a b => max (dX a) (dX b) + 1
def wT (vs cs : List (Key × Int)) : Ex → Int
  | .num i => i
  | .var x => tget vs (.inr x)
  | .cell e => tget cs (.inl (wT vs cs e))
  | .not e => if wT vs cs e = 0 then 1 else 0
  | .add a b => wT vs cs a + wT vs cs b
  | .sub a b => wT vs cs a - wT vs cs b
  | .mul a b => wT vs cs a * wT vs cs b
  | .less a b => if wT vs cs a < wT vs cs b then 1 else 0
  | .same a b => if wT vs cs a = wT vs cs b then 1 else 0
/-- products that can be told -/
def mO (vs cs : List (Key × Int)) : Ex → Prop
  | .num _ => True
  | .var _ => True
  | .cell e => mO vs cs e
  | .not e => mO vs cs e
  | .add a b => mO vs cs a ∧ mO vs cs b
  | .sub a b => mO vs cs a ∧ mO vs cs b
  | .mul a b => mO vs cs a ∧ mO vs cs b ∧ (wT vs cs b).natAbs < 18446744073709551616
  | .less a b => mO vs cs a ∧ mO vs cs b
  | .same a b => mO vs cs a ∧ mO vs cs b
end Hd
namespace Hd
open PySem PySem.Spec L2 Fx
theorem num_i (i : Int) : F_is_number [.int i] = some (.bool true, false) := by simp [F_is_number, b_is_number]
theorem num_t (ds : List D) : F_is_number [.tuple ds] = some (.bool false, false) := by simp [F_is_number, b_is_number]
theorem worth_ok {vs cs : List (Key × Int)} : ∀ (m : Nat) (e : Ex), mO vs cs e → dX e < m → F_worth m [eX e, .dict (tD vs), .dict (tD cs)] = some (.int (wT vs cs e), false) := by
  intro m
  induction m with
  | zero => intro e _ h; omega
  | succ m ih =>
    intro e hn h
    show mk0 6 (b_worth (F_worth m)) _ = _
    have n1 := num_i
    have n2 := num_t
    generalize F_worth m = A at ih
    have gv := fun x => dGetM_tD vs (x := .str x) (k := .inr x) rfl
    have gc := fun i => dGetM_tD cs (x := .int i) (k := .inl i) rfl
    have d01 : ∀ e : Ex, dX e + 1 < m + 1 → dX e < m := fun e h => by omega
    cases e with
    | num i =>
      refine wp_val ?_
      rw [mk0_e, wp_bind]
      show Wp (b_worth A [some (.int i, .sh), some (.dict (tD vs), .sh), some (.dict (tD cs), .sh), none, none, none]) _
      unfold b_worth
      rw [wp_sSeq]
      simp [n1, wT]
    | var x =>
      refine wp_val ?_
      rw [mk0_e, wp_bind]
      show Wp (b_worth A [some (.tuple [.str "var", .str x], .sh), some (.dict (tD vs), .sh), some (.dict (tD cs), .sh), none, none, none]) _
      unfold b_worth
      rw [wp_sSeq]
      simp [n2]
      refine later_i ?_
      rw [wp_sSeq]
      simp
      refine later_i ?_
      rw [wp_sSeq]
      simp [gv, wT]
    | cell e =>
      have e1 := ih e hn (d01 e h)
      refine wp_val ?_
      rw [mk0_e, wp_bind]
      show Wp (b_worth A [some (.tuple [.str "cell", eX e], .sh), some (.dict (tD vs), .sh), some (.dict (tD cs), .sh), none, none, none]) _
      unfold b_worth
      rw [wp_sSeq]
      simp [n2]
      repeat (refine later_i ?_; rw [wp_sSeq]; simp [e1, gc, wT])
    | not e =>
      have e1 := ih e hn (d01 e h)
      refine wp_val ?_
      rw [mk0_e, wp_bind]
      show Wp (b_worth A [some (.tuple [.str "not", eX e], .sh), some (.dict (tD vs), .sh), some (.dict (tD cs), .sh), none, none, none]) _
      unfold b_worth
      have di : ∀ c : Bool, dInt [.bool c] = some (.int (if c = true then 1 else 0), false) := fun c => rfl
      rw [wp_sSeq]
      simp [n2]
      by_cases hz : wT vs cs e = 0
      · repeat (refine later_i ?_; rw [wp_sSeq]; simp [e1, dEq_int, hz, di, wT])
      · repeat (refine later_i ?_; rw [wp_sSeq]; simp [e1, dEq_int, hz, di, wT])
    | add a b =>
      have e1 := ih a hn.1 (by simp only [dX] at h; omega)
      have e2 := ih b hn.2 (by simp only [dX] at h; omega)
      refine wp_val ?_
      rw [mk0_e, wp_bind]
      show Wp (b_worth A [some (.tuple [.str "add", eX a, eX b], .sh), some (.dict (tD vs), .sh), some (.dict (tD cs), .sh), none, none, none]) _
      unfold b_worth
      rw [wp_sSeq]
      simp [n2]
      repeat (refine later_i ?_; rw [wp_sSeq]; simp [e1, e2, wT])
    | sub a b =>
      have e1 := ih a hn.1 (by simp only [dX] at h; omega)
      have e2 := ih b hn.2 (by simp only [dX] at h; omega)
      refine wp_val ?_
      rw [mk0_e, wp_bind]
      show Wp (b_worth A [some (.tuple [.str "sub", eX a, eX b], .sh), some (.dict (tD vs), .sh), some (.dict (tD cs), .sh), none, none, none]) _
      unfold b_worth
      rw [wp_sSeq]
      simp [n2]
      repeat (refine later_i ?_; rw [wp_sSeq]; simp [e1, e2, wT])
    | mul a b =>
      have e1 := ih a hn.1 (by simp only [dX] at h; omega)
      have e2 := ih b hn.2.1 (by simp only [dX] at h; omega)
      refine wp_val ?_
      rw [mk0_e, wp_bind]
      show Wp (b_worth A [some (.tuple [.str "mul", eX a, eX b], .sh), some (.dict (tD vs), .sh), some (.dict (tD cs), .sh), none, none, none]) _
      unfold b_worth
      rw [wp_sSeq]
      simp [n2]
      repeat (refine later_i ?_; rw [wp_sSeq]; simp [e1, e2, wT, hn.2.2])
    | less a b =>
      have e1 := ih a hn.1 (by simp only [dX] at h; omega)
      have e2 := ih b hn.2 (by simp only [dX] at h; omega)
      refine wp_val ?_
      rw [mk0_e, wp_bind]
      show Wp (b_worth A [some (.tuple [.str "less", eX a, eX b], .sh), some (.dict (tD vs), .sh), some (.dict (tD cs), .sh), none, none, none]) _
      unfold b_worth
      have di : ∀ c : Bool, dInt [.bool c] = some (.int (if c = true then 1 else 0), false) := fun c => rfl
      rw [wp_sSeq]
      simp [n2]
      by_cases hz : wT vs cs a < wT vs cs b
      · repeat (refine later_i ?_; (first | rw [wp_sSeq] | skip); simp [e1, e2, hz, di, wT])
      · repeat (refine later_i ?_; (first | rw [wp_sSeq] | skip); simp [e1, e2, hz, di, wT])
    | same a b =>
      have e1 := ih a hn.1 (by simp only [dX] at h; omega)
      have e2 := ih b hn.2 (by simp only [dX] at h; omega)
      refine wp_val ?_
      rw [mk0_e, wp_bind]
      show Wp (b_worth A [some (.tuple [.str "same", eX a, eX b], .sh), some (.dict (tD vs), .sh), some (.dict (tD cs), .sh), none, none, none]) _
      unfold b_worth
      have di : ∀ c : Bool, dInt [.bool c] = some (.int (if c = true then 1 else 0), false) := fun c => rfl
      rw [wp_sSeq]
      simp [n2]
      by_cases hz : wT vs cs a = wT vs cs b
      · repeat (refine later_i ?_; (first | rw [wp_sSeq] | skip); simp [e1, e2, hz, dEq_int, di, wT])
      · repeat (refine later_i ?_; (first | rw [wp_sSeq] | skip); simp [e1, e2, hz, dEq_int, di, wT])
end Hd
namespace Hd
open PySem PySem.Spec L2 Fx
theorem tput_all {P : Key × Int → Prop} {ks : List (Key × Int)} {k : Key} {i : Int} (h : ∀ q ∈ ks, P q) (hk : ∀ j, P (k, j)) : ∀ q ∈ tput ks k i, P q := fun q hq => by
  unfold tput at hq
  split at hq
  · obtain ⟨p, hp, rfl⟩ := List.mem_map.mp hq
    split
    · rename_i e
      rw [e]
      exact hk _
    · exact h p hp
  · rcases List.mem_append.mp hq with hq | hq
    · exact h q hq
    · rw [List.mem_singleton.mp hq]; exact hk _
/-! ### inputs -/
/-! ### operations, programs, states -/
inductive Op where
  | lt (v : Str) (e : Ex) | pt (a e : Ex) | iff (e : Ex) (t : Nat) | cl (v f : Str) (e1 e2 : Ex) | ak (v : Str) | gv (e : Ex) | sy (e : Ex)
def eO : Op → D
  | .lt v e => .tuple [.str "let", .str v, eX e]
  | .pt a e => .tuple [.str "put", eX a, eX e]
  | .iff e t => .tuple [.str "if", eX e, .int (t : Int)]
  | .cl v f e1 e2 => .tuple [.str "call", .str v, .str f, .tuple [eX e1, eX e2]]
  | .ak v => .tuple [.str "ask", .str v]
  | .gv e => .tuple [.str "give", eX e]
  | .sy e => .tuple [.str "say", eX e]
structure Fn where
  ps : List Str
  code : List (Int × Op)
abbrev Prog := List (Str × Fn)
def eR (r : Int × Op) : D := .tuple [.int r.1, eO r.2]
def eFn (f : Fn) : D := .tuple [.tuple (f.ps.map .str), .tuple (f.code.map eR)]
def ePg (pg : Prog) : List (D × D) := pg.map fun q => (.str q.1, eFn q.2)
def pget (pg : Prog) (f : Str) : Option Fn := (pg.find? fun q => decide (q.1 = f)).map (·.2)
theorem dictGet_ePg (pg : Prog) (f : Str) : Fx.dictGet (ePg pg) (.inr f) = (pget pg f).map eFn := by
  unfold Fx.dictGet ePg pget
  rw [List.find?_map, Option.map_map, Option.map_map]
  have : ((fun p : D × D => decide (keyOf p.1 = some (.inr f))) ∘ fun q : Str × Fn => (PyData.str q.1, eFn q.2)) = fun q => decide (q.1 = f) := funext fun q => by
    simp
  rw [this]
  rfl
structure Fm where
  nm : Str
  pl : Nat
  vs : List (Key × Int)
  wt : Option Str
structure Stt where
  fr : List Fm
  cl : List (Key × Int)
  to : List Int
  ak : Nat
def oS : Option Str → D
  | none => .none
  | some x => .str x
def eFm (f : Fm) : D := .tuple [.str f.nm, .int (f.pl : Int), .tuple (f.vs.map eP), oS f.wt]
def eSt (s : Stt) : D := .tuple [.tuple (s.fr.map eFm), .tuple (s.cl.map eP), .tuple (s.to.map .int), .int (s.ak : Int)]
def opAt (pg : Prog) (f : Fm) : Op := match pget pg f.nm with
  | none => .gv (.num 0)
  | some F => ((F.code[f.pl]?).map (·.2)).getD (.gv (.num 0))
def giveT (fr0 : List Fm) (wt : Option Str) (i : Int) : List Fm := match fr0.getLast? with
  | none => []
  | some g => fr0.dropLast ++ [⟨g.nm, g.pl + 1, froz (tput (tmk g.vs) (.inr (wt.getD (Str.ofString ""))) i), g.wt⟩]
def arg2 (i j : Int) : List (Key × Int) := tmk [(.inr (Str.ofString "a"), i), (.inr (Str.ofString "b"), j)]
/-- as the program steps: tables that are not written stay -/
def opT (ins : List Int) (fr0 : List Fm) (f : Fm) (s : Stt) : Op → Stt
  | .gv e => ⟨giveT fr0 f.wt (wT (tmk f.vs) (tmk s.cl) e), s.cl, s.to, s.ak⟩
  | .cl v g e1 e2 => ⟨fr0 ++ [f] ++ [⟨g, 0, froz (arg2 (wT (tmk f.vs) (tmk s.cl) e1) (wT (tmk f.vs) (tmk s.cl) e2)), some v⟩], s.cl, s.to, s.ak⟩
  | .iff e t => ⟨fr0 ++ [⟨f.nm, if wT (tmk f.vs) (tmk s.cl) e = 0 then f.pl + 1 else t, f.vs, f.wt⟩], froz (tmk s.cl), s.to, s.ak⟩
  | .lt v e => ⟨fr0 ++ [⟨f.nm, f.pl + 1, froz (tput (tmk f.vs) (.inr v) (wT (tmk f.vs) (tmk s.cl) e)), f.wt⟩], froz (tmk s.cl), s.to, s.ak⟩
  | .ak v => ⟨fr0 ++ [⟨f.nm, f.pl + 1, froz (tput (tmk f.vs) (.inr v) ((ins[s.ak]?).getD 0)), f.wt⟩], froz (tmk s.cl), s.to, s.ak + 1⟩
  | .pt a e => ⟨fr0 ++ [⟨f.nm, f.pl + 1, f.vs, f.wt⟩], froz (tput (tmk s.cl) (.inl (wT (tmk f.vs) (tmk s.cl) a)) (wT (tmk f.vs) (tmk s.cl) e)), s.to, s.ak⟩
  | .sy e => ⟨fr0 ++ [⟨f.nm, f.pl + 1, f.vs, f.wt⟩], froz (tmk s.cl), s.to ++ [wT (tmk f.vs) (tmk s.cl) e], s.ak⟩
def stepT (pg : Prog) (ins : List Int) (s : Stt) : Stt := match s.fr.getLast? with
  | none => s
  | some f => opT ins s.fr.dropLast f s (opAt pg f)
theorem tmk_all {P : Key → Prop} {ks : List (Key × Int)} (h : ∀ q ∈ ks, P q.1) : ∀ q ∈ tmk ks, P q.1 := fun q hq => by
  have := tmk_keys (List.mem_map.mpr ⟨q, hq, rfl⟩)
  obtain ⟨p, hp, e⟩ := List.mem_map.mp this
  rw [← e]
  exact h p hp
theorem froz_all {P : Key → Prop} {ks : List (Key × Int)} (h : ∀ q ∈ ks, P q.1) : ∀ q ∈ froz ks, P q.1 := fun q hq => by
  have := froz_keys (List.mem_map.mpr ⟨q, hq, rfl⟩)
  obtain ⟨p, hp, e⟩ := List.mem_map.mp this
  rw [← e]
  exact h p hp
theorem sh_eP {q : Key × Int} (h : Sh 0 (kD q.1)) : Sh 1 (eP q) := Sh.tup fun d hd => by
  simp only [List.mem_cons, List.not_mem_nil, or_false] at hd
  rcases hd with rfl | rfl
  · exact h
  · exact Sh.int _
theorem eqv_tnil {ds : List D} : PyData.eqv (.tuple ds) (.tuple []) = ds.isEmpty := by
  cases ds <;> simp [PyData.eqv, PyData.eqvAll]
theorem sh_tnil {k : Nat} : Sh (k + 1) (.tuple []) := Sh.tup fun d hd => by cases hd
/-! ### no key twice -/
def ND (ks : List (Key × Int)) : Prop := (ks.map (·.1)).Nodup
theorem tput_nd {ks : List (Key × Int)} (h : ND ks) (k : Key) (i : Int) : ND (tput ks k i) := by
  unfold ND tput
  split
  · rw [List.map_map]
    have : ((fun x : Key × Int => x.1) ∘ fun q : Key × Int => if q.1 = k then (q.1, i) else q) = fun q => q.1 := funext fun q => by
      simp only [Function.comp]
      split <;> rfl
    rw [this]
    exact h
  · rename_i hn
    rw [List.map_append]
    refine List.nodup_append.mpr ⟨h, by simp, fun a ha b hb => ?_⟩
    simp only [List.map_cons, List.map_nil, List.mem_cons, List.not_mem_nil, or_false] at hb
    subst hb
    rintro rfl
    obtain ⟨q, hq, e⟩ := List.mem_map.mp ha
    exact hn (List.any_eq_true.mpr ⟨q, hq, decide_eq_true e⟩)
theorem fold_nd : ∀ (ks a : List (Key × Int)), ND a → ND (ks.foldl (fun a q => tput a q.1 q.2) a)
  | [], _, h => h
  | q :: ks, a, h => fold_nd ks _ (tput_nd h _ _)
theorem tmk_nd (ks : List (Key × Int)) : ND (tmk ks) := fold_nd ks [] List.nodup_nil
theorem froz_nd {ks : List (Key × Int)} (h : ND ks) : ND (froz ks) := by
  unfold ND froz
  rw [List.map_map]
  have : ((fun x : Key × Int => x.1) ∘ fun k => (k, tget ks k)) = id := rfl
  rw [this, List.map_id]
  exact ((srtK_perm _).nodup_iff.mpr h).filter _
theorem fold_id : ∀ (ks a : List (Key × Int)), ND (a ++ ks) → ks.foldl (fun a q => tput a q.1 q.2) a = a ++ ks
  | [], a, _ => (List.append_nil a).symm
  | q :: ks, a, h => by
    have e : tput a q.1 q.2 = a ++ [q] := by
      unfold tput
      rw [if_neg]
      intro z
      obtain ⟨p, hp, e⟩ := List.any_eq_true.mp z
      unfold ND at h
      rw [List.map_append] at h
      exact (List.nodup_append.mp h).2.2 p.1 (List.mem_map.mpr ⟨p, hp, rfl⟩) q.1 (by simp) (of_decide_eq_true e)
    rw [List.foldl_cons, e, fold_id ks (a ++ [q]) (by rw [List.append_assoc]; exact h), List.append_assoc]
    rfl
theorem tmk_id {ks : List (Key × Int)} (h : ND ks) : tmk ks = ks := fold_id ks [] h
/-! ### frozen tables stay as they are -/
def leS (a b : Str) : Bool := decide (a.cps.toList ≤ b.cps.toList)
theorem srtK_strs (xs : List Str) : srtK (xs.map Sum.inr) = (xs.mergeSort leS).map Sum.inr := by
  unfold srtK
  rw [List.map_mergeSort (r := leS)]
  intro a _ b _
  exact (dl_str a b).symm
theorem strs_sorted (xs : List Str) : (xs.mergeSort leS).Pairwise fun a b => leS a b = true :=
  List.pairwise_mergeSort (le := leS) (fun a b c h1 h2 => decide_eq_true (List.le_trans (of_decide_eq_true h1) (of_decide_eq_true h2))) (fun a b => by
    unfold leS
    rw [Bool.or_eq_true, decide_eq_true_eq, decide_eq_true_eq]
    exact List.le_total ..) xs
theorem strK {ks : List Key} (h : ∀ k ∈ ks, ∃ x : Str, k = .inr x) : ∃ xs : List Str, ks = xs.map Sum.inr := by
  induction ks with
  | nil => exact ⟨[], rfl⟩
  | cons k ks ih =>
    obtain ⟨x, rfl⟩ := h k (List.mem_cons_self ..)
    obtain ⟨xs, rfl⟩ := ih fun j hj => h j (List.mem_cons_of_mem _ hj)
    exact ⟨x :: xs, rfl⟩
def StV (ks : List (Key × Int)) : Prop := ∀ q ∈ ks, ∃ x : Str, q.1 = .inr x
theorem tget_map (ks : List (Key × Int)) (js : List Key) {k : Key} (h : k ∈ js) : tget (js.map fun k => (k, tget ks k)) k = tget ks k := by
  have : (js.map fun k => (k, tget ks k)).find? (fun q => decide (q.1 = k)) = some (k, tget ks k) := by
    induction js with
    | nil => cases h
    | cons j js ih =>
      rw [List.map_cons]
      by_cases hj : j = k
      · subst hj
        rw [List.find?_cons_of_pos (by simp)]
      · rw [List.find?_cons_of_neg (by simpa using hj)]
        rcases List.mem_cons.mp h with h | h
        · exact absurd h.symm hj
        · exact ih h
  unfold tget at this ⊢
  rw [this]
  rfl
theorem froz_froz {ks : List (Key × Int)} (hs : StV ks) : froz (froz ks) = froz ks := by
  obtain ⟨xs, hx⟩ := strK (ks := ks.map (·.1)) fun k hk => by
    obtain ⟨q, hq, rfl⟩ := List.mem_map.mp hk
    exact hs q hq
  have hk : (froz ks).map (·.1) = (srtK (ks.map (·.1))).filter fun k => !decide (tget ks k = 0) := by
    unfold froz
    rw [List.map_map]
    exact List.map_id _
  have hsrt : srtK ((froz ks).map (·.1)) = (froz ks).map (·.1) := by
    rw [hk, hx, srtK_strs]
    have e : ((xs.mergeSort leS).map (Sum.inr : Str → Key)).filter (fun k => !decide (tget ks k = 0)) = ((xs.mergeSort leS).filter fun x => !decide (tget ks (.inr x) = 0)).map Sum.inr := by
      rw [List.filter_map]
      rfl
    rw [e, srtK_strs]
    congr 1
    exact List.mergeSort_of_pairwise ((strs_sorted xs).filter _)
  have key : ∀ js : List Key, js = (srtK (ks.map (·.1))).filter (fun k => !decide (tget ks k = 0)) → froz ks = js.map fun k => (k, tget ks k) := fun js e => by rw [e]; rfl
  have h1 := key _ rfl
  generalize hjs : ((srtK (ks.map (·.1))).filter fun k => !decide (tget ks k = 0)) = js at *
  have hnz : ∀ k ∈ js, tget ks k ≠ 0 := fun k hk => by
    rw [← hjs] at hk
    have := (List.mem_filter.mp hk).2
    simpa using this
  have h2 : froz (froz ks) = ((srtK ((froz ks).map (·.1))).filter fun k => !decide (tget (froz ks) k = 0)).map fun k => (k, tget (froz ks) k) := rfl
  rw [h2, hsrt, hk, h1]
  have h3 : js.filter (fun k => !decide (tget (js.map fun k => (k, tget ks k)) k = 0)) = js := List.filter_eq_self.mpr fun k hk => by
    rw [tget_map ks js hk]
    simpa using hnz k hk
  rw [h3]
  exact List.map_congr_left fun k hk => by rw [tget_map ks js hk]
theorem KO_vs {vs : List (Key × Int)} (h : ∀ q ∈ vs, ∃ x : Str, q.1 = .inr x ∧ PyData.strOk x = true) : KO (vs.map (·.1)) := .inr fun k hk => by
  obtain ⟨q, hq, rfl⟩ := List.mem_map.mp hk
  exact h q hq
theorem KO_cl {vs : List (Key × Int)} (h : ∀ q ∈ vs, ∃ i : Int, q.1 = .inl i) : KO (vs.map (·.1)) := .inl fun k hk => by
  obtain ⟨q, hq, rfl⟩ := List.mem_map.mp hk
  exact h q hq
def SV (vs : List (Key × Int)) : Prop := ∀ q ∈ vs, ∃ x : Str, q.1 = .inr x ∧ PyData.strOk x = true
/-- a good frame, a good state -/
structure GFm (n : Nat) (f : Fm) : Prop where
  nm : PyData.strOk f.nm = true
  vs : SV f.vs
  len : f.vs.length ≤ n + 2
structure GS (n : Nat) (s : Stt) : Prop where
  fr : ∀ f ∈ s.fr, GFm n f
  wt : ∀ f ∈ s.fr.tail, ∃ x, f.wt = some x ∧ PyData.strOk x = true
  hd : ∀ f ∈ s.fr.head?, f.wt = none
  cl : ∀ q ∈ s.cl, ∃ i : Int, q.1 = .inl i
  cn : s.cl.length ≤ n
  to : s.to.length ≤ n
  fn : s.fr.length ≤ n + 1
theorem GFm.sh {n : Nat} {f : Fm} (h : GFm n f) (hw : ∀ x, f.wt = some x → PyData.strOk x = true) : Sh 3 (eFm f) := Sh.tup fun d hd => by
  simp only [List.mem_cons, List.not_mem_nil, or_false] at hd
  rcases hd with rfl | rfl | rfl | rfl
  · exact Sh.mono (Sh.str _ h.nm) (by omega)
  · exact Sh.mono (Sh.int _) (by omega)
  · refine Sh.mono (Sh.tup (k := 1) fun d hd => ?_) (by omega)
    obtain ⟨q, hq, rfl⟩ := List.mem_map.mp hd
    obtain ⟨x, e, hx⟩ := h.vs q hq
    exact sh_eP (by rw [e]; exact Sh.str x hx)
  · cases hf : f.wt with
    | none => exact Sh.mono Sh.none (by omega)
    | some x => exact Sh.mono (Sh.str x (hw x hf)) (by omega)
theorem GS.frsh {n : Nat} {s : Stt} (h : GS n s) : ∀ f ∈ s.fr, Sh 3 (eFm f) := fun f hf => (h.fr f hf).sh fun x hx => by
  cases e : s.fr with
  | nil => rw [e] at hf; cases hf
  | cons g r =>
    rw [e] at hf
    rcases List.mem_cons.mp hf with rfl | hf
    · have := h.hd f (by rw [e]; rfl)
      rw [this] at hx
      cases hx
    · obtain ⟨y, e2, hy⟩ := h.wt f (by rw [e]; exact hf)
      rw [e2] at hx
      cases hx
      exact hy
theorem frs_ne {fr : List Fm} (h : ∀ f ∈ fr, Sh 3 (eFm f)) : dNe (.tuple (fr.map eFm)) (.tuple []) = some (.bool (!fr.isEmpty), false) := by
  rw [dNe_of (Sh.tup (k := 3) fun d hd => by
    obtain ⟨f, hf, rfl⟩ := List.mem_map.mp hd
    exact h f hf) (sh_tnil (k := 0)) (by omega) (by omega), eqv_tnil]
  cases fr <;> rfl
theorem frs_eq {fr : List Fm} (h : ∀ f ∈ fr, Sh 3 (eFm f)) : dEq (.tuple (fr.map eFm)) (.tuple []) = some (.bool fr.isEmpty, false) := by
  rw [dEq_of (Sh.tup (k := 3) fun d hd => by
    obtain ⟨f, hf, rfl⟩ := List.mem_map.mp hd
    exact h f hf) (sh_tnil (k := 0)) (by omega) (by omega), eqv_tnil]
  cases fr <;> rfl
theorem tupDs_eP (ks : List (Key × Int)) : tupDs (ks.map eP) = true := tupDs_all fun d hd => by
  obtain ⟨q, _, rfl⟩ := List.mem_map.mp hd
  obtain ⟨k, i⟩ := q
  cases k <;> rfl
theorem eSt_0 (s : Stt) : dIxA (eSt s) (.int 0) = some (.tuple (s.fr.map eFm), false) := by simp [eSt]
theorem pfz {ks : List (Key × Int)} (h : KO (ks.map (·.1))) (hl : ks.length ≤ 1000) : F_frozen [.dict (tD ks)] = some (.tuple ((froz ks).map eP), false) := frozen_ok h hl
def oO : Option Op → D
  | none => .none
  | some o => eO o
theorem opat_ok {pg : Prog} {nm : Str} {pl : Nat} {F : Fn} (h : pget pg nm = some F) : F_op_at [.dict (ePg pg), .str nm, .int (pl : Int)] = some (oO ((F.code[pl]?).map (·.2)), false) := by
  have eg : Fx.dictGet (ePg pg) (.inr nm) = some (eFn F) := by rw [dictGet_ePg, h]; rfl
  refine wp_val ?_
  show Wp (mk0 4 b_op_at _) _
  rw [mk0_e, wp_bind]
  show Wp (b_op_at [some (.dict (ePg pg), .sh), some (.str nm, .sh), some (.int (pl : Int), .sh), none]) _
  unfold b_op_at
  rw [wp_sSeq]
  simp [eg, eFn]
  refine later_i ?_
  by_cases hpl : pl < F.code.length
  · have ea : atI (F.code.map eR) (pl : Int) = some (eR F.code[pl]) := at_nat (by rw [List.getElem?_map, List.getElem?_eq_getElem hpl]; rfl)
    simp [hpl, ea, eR, oO]
  · simp [hpl, oO]
end Hd
namespace Hd
open PySem PySem.Spec L2 Fx
theorem wv_ok {f : Fm} (hv : SV f.vs) (hl : f.vs.length ≤ 900) {v : Str} (hV : PyData.strOk v = true) (i : Int) (pl : Nat) : F_with_variable [eFm f, .str v, .int i, .int (pl : Int)] = some (eFm ⟨f.nm, pl, froz (tput (tmk f.vs) (.inr v) i), f.wt⟩, false) := by
  have kg : KO ((tput (tmk f.vs) (.inr v) i).map (·.1)) := KO_vs (tput_all (P := fun q => ∃ x : Str, q.1 = .inr x ∧ PyData.strOk x = true) (tmk_all (P := fun k => ∃ x : Str, k = .inr x ∧ PyData.strOk x = true) hv) fun j => ⟨v, rfl, hV⟩)
  have lg0 := tput_len (tmk f.vs) (.inr v) i
  have lg1 := tmk_len f.vs
  have zg := pfz kg (by omega)
  have lt : (tD (tmk f.vs)).length < 16777216 := by unfold tD; rw [List.length_map]; omega
  refine wp_val ?_
  show Wp (mk0 5 b_with_variable _) _
  rw [mk0_e, wp_bind]
  show Wp (b_with_variable [some (eFm f, .sh), some (.str v, .sh), some (.int i, .sh), some (.int (pl : Int), .sh), none]) _
  unfold b_with_variable
  generalize F_frozen = A at zg ⊢
  rw [wp_sSeq]
  simp [eFm]
  refine later_i ?_
  rw [wp_sSeq]
  simp [lt, dictPut_tD]
  refine later_i ?_
  simp [zg, tupDs_eP]
theorem given_ok {n : Nat} (hn : n ≤ 200) {fr0 : List Fm} {f : Fm} {cl : List (Key × Int)} {to : List Int} {ak : Nat} (h : GS n ⟨fr0 ++ [f], cl, to, ak⟩) (i : Int) : F_given [eSt ⟨fr0 ++ [f], cl, to, ak⟩, .int i] = some (eSt ⟨giveT fr0 f.wt i, cl, to, ak⟩, false) := by
  have hfl : (fr0 ++ [f]).length ≤ n + 1 := h.fn
  have hsh0 : ∀ g ∈ fr0, Sh 3 (eFm g) := fun g hg => h.frsh g (by simp [hg])
  have ene := frs_ne hsh0
  refine wp_val ?_
  show Wp (mk0 8 b_given _) _
  rw [mk0_e, wp_bind]
  show Wp (b_given [some (eSt ⟨fr0 ++ [f], cl, to, ak⟩, .sh), some (.int i, .sh), none, none, none, none, none, none]) _
  unfold b_given
  have ew : ∀ g : Fm, dIxA (eFm g) (.int 3) = some (oS g.wt, false) := fun g => by unfold eFm; simp
  have e1 : ∀ g : Fm, dIxA (eFm g) (.int 1) = some (.int (g.pl : Int), false) := fun g => by unfold eFm; simp
  rw [wp_sSeq]
  simp [eSt]
  refine later_i ?_
  rw [wp_sSeq]
  simp [ew]
  refine later_i ?_
  rw [wp_sSeq]
  simp
  refine later_i ?_
  rw [wp_sSeq]
  rcases List.eq_nil_or_concat fr0 with rfl | ⟨fr1, g, rfl⟩
  · simp at ene
    simp [ene]
    refine later_i ?_
    simp [giveT]
  · rw [List.concat_eq_append] at *
    obtain ⟨x, hw, hx⟩ := h.wt f (by cases fr1 <;> simp)
    have gg := h.fr g (by simp)
    have lg := gg.len
    have wv := wv_ok gg.vs (by omega) hx i (g.pl + 1)
    rw [show ((g.pl + 1 : Nat) : Int) = (g.pl : Int) + 1 by simp] at wv
    have h4 : fr1.length + 1 ≤ 16777216 := by simp at hfl; omega
    generalize F_with_variable = A at wv ⊢
    simp at ene
    simp [ene]
    refine later_i ?_
    simp [hw, oS, e1, wv, h4]
    refine later_i ?_
    simp [giveT]
theorem vars_ok {fr0 : List Fm} {f : Fm} {cl : List (Key × Int)} {to : List Int} {ak : Nat} : F_variables_of [eSt ⟨fr0 ++ [f], cl, to, ak⟩] = some (.dict (tD (tmk f.vs)), true) := by
  have e2 : dIxA (eFm f) (.int 2) = some (.tuple (f.vs.map eP), false) := by unfold eFm; simp
  have e0 := eSt_0 ⟨fr0 ++ [f], cl, to, ak⟩
  rw [List.map_append] at e0
  generalize eSt ⟨fr0 ++ [f], cl, to, ak⟩ = S at e0 ⊢
  simp at e0
  simp [F_variables_of, b_variables_of, e0, e2]
def gE (vs cs : List (Key × Int)) (e : Ex) : Prop := mO vs cs e ∧ dX e ≤ 2
theorem pw {vs cs : List (Key × Int)} {e : Ex} (h : gE vs cs e) : F_worth recN [eX e, .dict (tD vs), .dict (tD cs)] = some (.int (wT vs cs e), false) := worth_ok recN e h.1 (Nat.lt_of_le_of_lt h.2 (by decide))
def gOp (pg : Prog) (vs cs : List (Key × Int)) : Op → Prop
  | .lt v e => PyData.strOk v = true ∧ gE vs cs e
  | .pt a e => gE vs cs a ∧ gE vs cs e
  | .iff e _ => gE vs cs e
  | .cl v f e1 e2 => PyData.strOk v = true ∧ PyData.strOk f = true ∧ (∃ G, pget pg f = some G ∧ G.ps = [Str.ofString "a", Str.ofString "b"]) ∧ gE vs cs e1 ∧ gE vs cs e2
  | .ak v => PyData.strOk v = true
  | .gv e => gE vs cs e
  | .sy e => gE vs cs e
theorem arg2_sv (i j : Int) : SV (arg2 i j) := fun q hq => by
  have := tmk_keys (List.mem_map.mpr ⟨q, hq, rfl⟩)
  simp at this
  rcases this with h | h
  · exact ⟨_, h, ofS_ok _⟩
  · exact ⟨_, h, ofS_ok _⟩
theorem arg2_len (i j : Int) : (arg2 i j).length ≤ 2 := tmk_len [((.inr (Str.ofString "a") : Key), i), (.inr (Str.ofString "b"), j)]
theorem called_ok {pg : Prog} {n : Nat} (hn : n ≤ 200) {fr0 : List Fm} {f : Fm} {cl : List (Key × Int)} {to : List Int} {ak : Nat} (h : GS n ⟨fr0 ++ [f], cl, to, ak⟩) {v g : Str} {e1 e2 : Ex} (hop : gOp pg (tmk f.vs) (tmk cl) (.cl v g e1 e2)) (ins : List Int) :
    F_called [.dict (ePg pg), eSt ⟨fr0 ++ [f], cl, to, ak⟩, eO (.cl v g e1 e2)] = some (eSt (opT ins fr0 f ⟨fr0 ++ [f], cl, to, ak⟩ (.cl v g e1 e2)), false) := by
  have hfl : (fr0 ++ [f]).length ≤ n + 1 := h.fn
  obtain ⟨_, _, ⟨G, hG2, hps⟩, g1, g2⟩ := hop
  have l1 := pw g1
  have l2 := pw g2
  have eg2 : Fx.dictGet (ePg pg) (.inr g) = some (eFn G) := by rw [dictGet_ePg, hG2]; rfl
  have zx := pfz (KO_vs (arg2_sv (wT (tmk f.vs) (tmk cl) e1) (wT (tmk f.vs) (tmk cl) e2))) (by have := arg2_len (wT (tmk f.vs) (tmk cl) e1) (wT (tmk f.vs) (tmk cl) e2); omega)
  have hdz : dDictZip [.tuple [.str (Str.ofString "a"), .str (Str.ofString "b")], .list [.int (wT (tmk f.vs) (tmk cl) e1), .int (wT (tmk f.vs) (tmk cl) e2)]] = some (.dict (tD (arg2 (wT (tmk f.vs) (tmk cl) e1) (wT (tmk f.vs) (tmk cl) e2))), true) := by
    show some (PyData.dict (mergeD [] ([(.inr (Str.ofString "a") : Key), .inr (Str.ofString "b")].zip [.int (wT (tmk f.vs) (tmk cl) e1), .int (wT (tmk f.vs) (tmk cl) e2)])), true) = _
    have := mergeD_tD [((.inr (Str.ofString "a") : Key), wT (tmk f.vs) (tmk cl) e1), (.inr (Str.ofString "b"), wT (tmk f.vs) (tmk cl) e2)] []
    simp only [List.map_cons, List.map_nil] at this
    rw [List.zip_cons_cons, List.zip_cons_cons, List.zip_nil_left]
    have e0 : tD [] = [] := rfl
    rw [e0] at this
    rw [this]
    rfl
  have vk := vars_ok (fr0 := fr0) (f := f) (cl := cl) (to := to) (ak := ak)
  have h2 : fr0.length + 1 + 1 ≤ 16777216 := by simp at hfl; omega
  refine wp_val ?_
  show Wp (mk0 12 b_called _) _
  rw [mk0_e, wp_bind]
  show Wp (b_called [some (.dict (ePg pg), .sh), some (eSt ⟨fr0 ++ [f], cl, to, ak⟩, .sh), some (.tuple [.str "call", .str v, .str g, .tuple [eX e1, eX e2]], .sh), none, none, none, none, none, none, none, none, none]) _
  unfold b_called
  generalize F_variables_of = A at vk ⊢
  generalize F_worth recN = B at l1 l2 ⊢
  generalize F_frozen = C at zx ⊢
  have es : eSt ⟨fr0 ++ [f], cl, to, ak⟩ = .tuple [.tuple ((fr0 ++ [f]).map eFm), .tuple (cl.map eP), .tuple (to.map .int), .int (ak : Int)] := rfl
  rw [wp_sSeq]
  refine wp_of (y := (Out.nx, ([some (.dict (ePg pg), .sh), some (eSt ⟨fr0 ++ [f], cl, to, ak⟩, .sh), some (.tuple [.str "call", .str v, .str g, .tuple [eX e1, eX e2]], .sh), some (.tuple ((fr0 ++ [f]).map eFm), .sh), some (.tuple (cl.map eP), .sh), some (.tuple (to.map .int), .sh), some (.int (ak : Int), .sh), none, none, none, none, none] : En))) (by rw [es]; simp) ?_
  refine later_i ?_
  rw [wp_sSeq]
  refine wp_of (y := (Out.nx, ([some (.dict (ePg pg), .sh), some (eSt ⟨fr0 ++ [f], cl, to, ak⟩, .sh), some (.tuple [.str "call", .str v, .str g, .tuple [eX e1, eX e2]], .sh), some (.tuple ((fr0 ++ [f]).map eFm), .sh), some (.tuple (cl.map eP), .sh), some (.tuple (to.map .int), .sh), some (.int (ak : Int), .sh), some (.dict (tD (tmk f.vs)), .own), some (.dict (tD (tmk cl)), .own), none, none, none] : En))) (by simp [vk]) ?_
  refine later_i ?_
  have hc : fLc [10] (itV (toV (f2 (fSlot 2) (svO (fC (.int 3))) dIxA))) (gN 10) (tTrue) (toV (fCall 3 (lCons (fName 10) (lCons (fName 7) (lCons (fName 8) (lNil)))) B)) [some (.dict (ePg pg), .sh), some (eSt ⟨fr0 ++ [f], cl, to, ak⟩, .sh), some (.tuple [.str "call", .str v, .str g, .tuple [eX e1, eX e2]], .sh), some (.tuple ((fr0 ++ [f]).map eFm), .sh), some (.tuple (cl.map eP), .sh), some (.tuple (to.map .int), .sh), some (.int (ak : Int), .sh), some (.dict (tD (tmk f.vs)), .own), some (.dict (tD (tmk cl)), .own), none, none, none] = some (.list [.int (wT (tmk f.vs) (tmk cl) e1), .int (wT (tmk f.vs) (tmk cl) e2)], true, [some (.dict (ePg pg), .sh), some (eSt ⟨fr0 ++ [f], cl, to, ak⟩, .sh), some (.tuple [.str "call", .str v, .str g, .tuple [eX e1, eX e2]], .sh), some (.tuple ((fr0 ++ [f]).map eFm), .sh), some (.tuple (cl.map eP), .sh), some (.tuple (to.map .int), .sh), some (.int (ak : Int), .sh), some (.dict (tD (tmk f.vs)), .sh), some (.dict (tD (tmk cl)), .sh), none, none, none]) :=
    flc_eq (en1 := [some (.dict (ePg pg), .sh), some (eSt ⟨fr0 ++ [f], cl, to, ak⟩, .sh), some (.tuple [.str "call", .str v, .str g, .tuple [eX e1, eX e2]], .sh), some (.tuple ((fr0 ++ [f]).map eFm), .sh), some (.tuple (cl.map eP), .sh), some (.tuple (to.map .int), .sh), some (.int (ak : Int), .sh), some (.dict (tD (tmk f.vs)), .own), some (.dict (tD (tmk cl)), .own), none, none, none]) (en2 := [some (.dict (ePg pg), .sh), some (eSt ⟨fr0 ++ [f], cl, to, ak⟩, .sh), some (.tuple [.str "call", .str v, .str g, .tuple [eX e1, eX e2]], .sh), some (.tuple ((fr0 ++ [f]).map eFm), .sh), some (.tuple (cl.map eP), .sh), some (.tuple (to.map .int), .sh), some (.int (ak : Int), .sh), some (.dict (tD (tmk f.vs)), .sh), some (.dict (tD (tmk cl)), .sh), none, none, none]) (ds := [eX e1, eX e2]) (rs := [.int (wT (tmk f.vs) (tmk cl) e1), .int (wT (tmk f.vs) (tmk cl) e2)]) (by rw [e_itV]; simp) (by simp [lcL, wipeE, l1, l2]) (by simp)
  rw [wp_sSeq, e_sSet, wp_bind, hc]
  refine wp_some.mpr ?_
  refine wp_of (y := (Out.nx, ([some (.dict (ePg pg), .sh), some (eSt ⟨fr0 ++ [f], cl, to, ak⟩, .sh), some (.tuple [.str "call", .str v, .str g, .tuple [eX e1, eX e2]], .sh), some (.tuple ((fr0 ++ [f]).map eFm), .sh), some (.tuple (cl.map eP), .sh), some (.tuple (to.map .int), .sh), some (.int (ak : Int), .sh), some (.dict (tD (tmk f.vs)), .sh), some (.dict (tD (tmk cl)), .sh), some (.list [.int (wT (tmk f.vs) (tmk cl) e1), .int (wT (tmk f.vs) (tmk cl) e2)], .own), none, none] : En))) (by simp) ?_
  refine later_i ?_
  rw [wp_sSeq]
  refine wp_of (y := (Out.nx, ([some (.dict (ePg pg), .sh), some (eSt ⟨fr0 ++ [f], cl, to, ak⟩, .sh), some (.tuple [.str "call", .str v, .str g, .tuple [eX e1, eX e2]], .sh), some (.tuple ((fr0 ++ [f]).map eFm), .sh), some (.tuple (cl.map eP), .sh), some (.tuple (to.map .int), .sh), some (.int (ak : Int), .sh), some (.dict (tD (tmk f.vs)), .sh), some (.dict (tD (tmk cl)), .sh), some (.list [.int (wT (tmk f.vs) (tmk cl) e1), .int (wT (tmk f.vs) (tmk cl) e2)], .own), none, some (.tuple ((froz (arg2 (wT (tmk f.vs) (tmk cl) e1) (wT (tmk f.vs) (tmk cl) e2))).map eP), .sh)] : En))) (by simp [eg2, eFn, hps, hdz, zx]) ?_
  refine later_i ?_
  simp [opT, eSt, eFm, oS, h2]
/-- the last two rows of a step -/
theorem fin_ok {pg : Prog} {n : Nat} (hn : n ≤ 200) {ins : List Int} {fr0 : List Fm} {f : Fm} {cl : List (Key × Int)} {to0 : List Int} {ak0 : Nat} (hfl : fr0.length ≤ n) (g : Fm) (hn2 : g.nm = f.nm) (hw : g.wt = f.wt) (pl : Nat) (cl2 : List (Key × Int)) (to : List Int) (ak : Nat)
    (kc : KO (cl2.map (·.1))) (lc : cl2.length ≤ 900) (X1 X2 X4 X9 X10 X11 X13 : Option (D × Fl)) :
    Wp (sSeq (sSet 7 (f2 (svO (fTup (lCons (fName 8) (lCons (fName 14) (lNil))))) (toO (fSl (fSlot 7) (pInt (svO (fC (.int 2)))) (pNone) dSl)) (dAdd))) (sRet (ofV (fTup (lCons (toV (f2 (toO (fSl (fSlot 3) (pNone) (pInt (toO (f1 (svO (fC (.int 1))) dNeg))) dSl)) (svO (fTup (lCons (fName 7) (lNil)))) (dAdd))) (lCons (toV (fCallL 1 (aCons (fSlot 12) (aNil)) F_frozen)) (lCons (fName 5) (lCons (fName 6) (lNil)))))))) [some (.dict (ePg pg), .sh), X1, X2, some (.tuple ((fr0 ++ [f]).map eFm), .sh), X4, some (.tuple (to.map .int), .sh), some (.int (ak : Int), .sh), some (eFm g, .sh), some (.str f.nm, .sh), X9, X10, X11, some (.dict (tD cl2), .own), X13, some (.int (pl : Int), .sh)])
      fun y => y.1 = .rt (eSt ⟨fr0 ++ [⟨f.nm, pl, g.vs, f.wt⟩], froz cl2, to, ak⟩) false := by
  have zc := pfz kc (by omega)
  have h1 : fr0.length + 1 ≤ 16777216 := by omega
  have ed : dSl (eFm g) (some 2) none = some (.tuple [.tuple (g.vs.map eP), oS f.wt], false) := by unfold eFm; rw [hw]; exact dSl_td _ 2
  generalize F_frozen = A at zc ⊢
  rw [wp_sSeq]
  simp [ed]
  refine later_i ?_
  simp [zc, tupDs_eP, h1, eSt, eFm]
theorem pstep_ok {pg : Prog} {n : Nat} (hn : n ≤ 200) (ins : List Int) {s : Stt} (h : GS n s) (hne : s.fr ≠ []) (hpf : ∀ f, s.fr.getLast? = some f → ∃ F, pget pg f.nm = some F) (hgo : ∀ f, s.fr.getLast? = some f → gOp pg (tmk f.vs) (tmk s.cl) (opAt pg f)) : F_step [.dict (ePg pg), .tuple (ins.map .int), eSt s] = some (eSt (stepT pg ins s), false) := by
  obtain ⟨fr, cl, to, ak⟩ := s
  obtain ⟨fr0, f, rfl⟩ : ∃ fr0 f, fr = fr0 ++ [f] := ⟨fr.dropLast, fr.getLast hne, (List.dropLast_concat_getLast hne).symm⟩
  have gf := h.fr f (by simp)
  have es : stepT pg ins ⟨fr0 ++ [f], cl, to, ak⟩ = opT ins fr0 f ⟨fr0 ++ [f], cl, to, ak⟩ (opAt pg f) := by
    unfold stepT
    simp
  rw [es]
  obtain ⟨F, hg⟩ := hpf f (by simp)
  have hfl : (fr0 ++ [f]).length ≤ n + 1 := h.fn
  have hfl0 : fr0.length ≤ n := by simpa using hfl
  have hcl : cl.length ≤ n := h.cn
  have hto : to.length ≤ n := h.to
  have kc : KO ((tmk cl).map (·.1)) := KO_cl (tmk_all (P := fun k => ∃ i : Int, k = .inl i) h.cl)
  have lv : f.vs.length ≤ n + 2 := gf.len
  have lc : (tmk cl).length ≤ n := Nat.le_trans (tmk_len _) hcl
  have hop : gOp pg (tmk f.vs) (tmk cl) (opAt pg f) := hgo f (by simp)
  have eo := opat_ok (pl := f.pl) hg
  have eg := fun i => given_ok hn h i
  have low : ∀ (e : Ex), gE (tmk f.vs) (tmk cl) e → F_worth recN [eX e, .dict (tD (tmk f.vs)), .dict (tD (tmk cl))] = some (.int (wT (tmk f.vs) (tmk cl) e), false) := fun e he => pw he
  have wv := fun v (hv : PyData.strOk v = true) i => wv_ok gf.vs (by omega) hv i (f.pl + 1)
  rw [show ((f.pl + 1 : Nat) : Int) = (f.pl : Int) + 1 by simp] at wv
  refine wp_val ?_
  show Wp (mk0 15 b_step _) _
  rw [mk0_e, wp_bind]
  show Wp (b_step [some (.dict (ePg pg), .sh), some (.tuple (ins.map .int), .sh), some (eSt ⟨fr0 ++ [f], cl, to, ak⟩, .sh), none, none, none, none, none, none, none, none, none, none, none, none]) _
  unfold b_step
  have ees : eSt ⟨fr0 ++ [f], cl, to, ak⟩ = .tuple [.tuple ((fr0 ++ [f]).map eFm), .tuple (cl.map eP), .tuple (to.map .int), .int (ak : Int)] := rfl
  have ed2 : dSl (eFm f) none (some 2) = some (.tuple [.str f.nm, .int (f.pl : Int)], false) := by unfold eFm; exact dSl_tk _ 2
  have ev : dIxA (eFm f) (.int 2) = some (.tuple (f.vs.map eP), false) := by unfold eFm; simp
  rw [wp_sSeq]
  refine wp_of (y := (Out.nx, ([some (.dict (ePg pg), .sh), some (.tuple (ins.map .int), .sh), some (eSt ⟨fr0 ++ [f], cl, to, ak⟩, .sh), some (.tuple ((fr0 ++ [f]).map eFm), .sh), some (.tuple (cl.map eP), .sh), some (.tuple (to.map .int), .sh), some (.int (ak : Int), .sh), none, none, none, none, none, none, none, none] : En))) (by rw [ees]; simp) ?_
  refine later_i ?_
  rw [wp_sSeq]
  refine wp_of (y := (Out.nx, ([some (.dict (ePg pg), .sh), some (.tuple (ins.map .int), .sh), some (eSt ⟨fr0 ++ [f], cl, to, ak⟩, .sh), some (.tuple ((fr0 ++ [f]).map eFm), .sh), some (.tuple (cl.map eP), .sh), some (.tuple (to.map .int), .sh), some (.int (ak : Int), .sh), some (eFm f, .sh), none, none, none, none, none, none, none] : En))) (by simp) ?_
  refine later_i ?_
  rw [wp_sSeq]
  refine wp_of (y := (Out.nx, ([some (.dict (ePg pg), .sh), some (.tuple (ins.map .int), .sh), some (eSt ⟨fr0 ++ [f], cl, to, ak⟩, .sh), some (.tuple ((fr0 ++ [f]).map eFm), .sh), some (.tuple (cl.map eP), .sh), some (.tuple (to.map .int), .sh), some (.int (ak : Int), .sh), some (eFm f, .sh), some (.str f.nm, .sh), some (.int (f.pl : Int), .sh), none, none, none, none, none] : En))) (by simp [ed2]) ?_
  refine later_i ?_
  rw [wp_sSeq]
  refine wp_of (y := (Out.nx, ([some (.dict (ePg pg), .sh), some (.tuple (ins.map .int), .sh), some (eSt ⟨fr0 ++ [f], cl, to, ak⟩, .sh), some (.tuple ((fr0 ++ [f]).map eFm), .sh), some (.tuple (cl.map eP), .sh), some (.tuple (to.map .int), .sh), some (.int (ak : Int), .sh), some (eFm f, .sh), some (.str f.nm, .sh), some (.int (f.pl : Int), .sh), some (oO ((F.code[f.pl]?).map (·.2)), .sh), none, none, none, none] : En))) (by simp [eo]) ?_
  refine later_i ?_
  rw [wp_sSeq]
  refine wp_of (y := (Out.nx, ([some (.dict (ePg pg), .sh), some (.tuple (ins.map .int), .sh), some (eSt ⟨fr0 ++ [f], cl, to, ak⟩, .sh), some (.tuple ((fr0 ++ [f]).map eFm), .sh), some (.tuple (cl.map eP), .sh), some (.tuple (to.map .int), .sh), some (.int (ak : Int), .sh), some (eFm f, .sh), some (.str f.nm, .sh), some (.int (f.pl : Int), .sh), some (oO ((F.code[f.pl]?).map (·.2)), .sh), some (.dict (tD (tmk f.vs)), .own), some (.dict (tD (tmk cl)), .own), none, none] : En))) (by simp [ev]) ?_
  refine later_i ?_
  have eop : opAt pg f = ((F.code[f.pl]?).map (·.2)).getD (.gv (.num 0)) := by unfold opAt; rw [hg]
  have tl := fun g h1 h2 pl cl2 to ak kc lc X1 X2 X4 X9 X10 X11 X13 => fin_ok (pg := pg) (n := n) hn (ins := ins) (fr0 := fr0) (f := f) (cl := cl) (to0 := to) (ak0 := ak) hfl0 g h1 h2 pl cl2 to ak kc lc X1 X2 X4 X9 X10 X11 X13
  cases hc : F.code[f.pl]? with
  | none =>
    rw [hc] at eop
    rw [eop]
    have e0 := eg 0
    generalize F_given = A at e0 ⊢
    rw [wp_sSeq]
    simp [oO]
    rw [e0]
    simp [opT, wT]
  | some r =>
    rw [hc] at eop
    have eop : opAt pg f = r.2 := eop
    rw [eop] at hop ⊢
    have hr : oO ((some r).map (·.2)) = eO r.2 := rfl
    rw [hr]
    generalize r.2 = op at hop ⊢
    have hnd : isND (eO op) = false := by cases op <;> rfl
    rw [wp_sSeq]
    refine wp_of (y := (Out.nx, ([some (.dict (ePg pg), .sh), some (.tuple (ins.map .int), .sh), some (eSt ⟨fr0 ++ [f], cl, to, ak⟩, .sh), some (.tuple ((fr0 ++ [f]).map eFm), .sh), some (.tuple (cl.map eP), .sh), some (.tuple (to.map .int), .sh), some (.int (ak : Int), .sh), some (eFm f, .sh), some (.str f.nm, .sh), some (.int (f.pl : Int), .sh), some (eO op, .sh), some (.dict (tD (tmk f.vs)), .own), some (.dict (tD (tmk cl)), .own), none, none] : En))) (by simp [hnd]) ?_
    refine later_i ?_
    cases op with
    | gv e =>
      have l1 := low e hop
      have e0 := eg (wT (tmk f.vs) (tmk cl) e)
      generalize F_given = A at e0 ⊢
      generalize F_worth recN = B at l1 ⊢
      rw [wp_sSeq]
      refine wp_of (y := (Out.nx, ([some (.dict (ePg pg), .sh), some (.tuple (ins.map .int), .sh), some (eSt ⟨fr0 ++ [f], cl, to, ak⟩, .sh), some (.tuple ((fr0 ++ [f]).map eFm), .sh), some (.tuple (cl.map eP), .sh), some (.tuple (to.map .int), .sh), some (.int (ak : Int), .sh), some (eFm f, .sh), some (.str f.nm, .sh), some (.int (f.pl : Int), .sh), some (eO (.gv e), .sh), some (.dict (tD (tmk f.vs)), .own), some (.dict (tD (tmk cl)), .own), some (.str "give", .sh), none] : En))) (by simp [eO]) ?_
      refine later_i ?_
      rw [wp_sSeq]
      simp [eO, l1, e0, opT]
    | cl v g e1 e2 =>
      have e0 := called_ok hn h hop ins
      generalize F_called = A at e0 ⊢
      rw [wp_sSeq]
      refine wp_of (y := (Out.nx, ([some (.dict (ePg pg), .sh), some (.tuple (ins.map .int), .sh), some (eSt ⟨fr0 ++ [f], cl, to, ak⟩, .sh), some (.tuple ((fr0 ++ [f]).map eFm), .sh), some (.tuple (cl.map eP), .sh), some (.tuple (to.map .int), .sh), some (.int (ak : Int), .sh), some (eFm f, .sh), some (.str f.nm, .sh), some (.int (f.pl : Int), .sh), some (eO (.cl v g e1 e2), .sh), some (.dict (tD (tmk f.vs)), .own), some (.dict (tD (tmk cl)), .own), some (.str "call", .sh), none] : En))) (by simp [eO]) ?_
      refine later_i ?_
      rw [wp_sSeq]
      refine wp_of (y := (Out.nx, ([some (.dict (ePg pg), .sh), some (.tuple (ins.map .int), .sh), some (eSt ⟨fr0 ++ [f], cl, to, ak⟩, .sh), some (.tuple ((fr0 ++ [f]).map eFm), .sh), some (.tuple (cl.map eP), .sh), some (.tuple (to.map .int), .sh), some (.int (ak : Int), .sh), some (eFm f, .sh), some (.str f.nm, .sh), some (.int (f.pl : Int), .sh), some (eO (.cl v g e1 e2), .sh), some (.dict (tD (tmk f.vs)), .own), some (.dict (tD (tmk cl)), .own), some (.str "call", .sh), none] : En))) (by simp) ?_
      refine later_i ?_
      rw [wp_sSeq]
      simp [e0]
    | iff e t =>
      have l1 := low e hop
      generalize F_worth recN = B at l1 ⊢
      rw [wp_sSeq]
      refine wp_of (y := (Out.nx, ([some (.dict (ePg pg), .sh), some (.tuple (ins.map .int), .sh), some (eSt ⟨fr0 ++ [f], cl, to, ak⟩, .sh), some (.tuple ((fr0 ++ [f]).map eFm), .sh), some (.tuple (cl.map eP), .sh), some (.tuple (to.map .int), .sh), some (.int (ak : Int), .sh), some (eFm f, .sh), some (.str f.nm, .sh), some (.int (f.pl : Int), .sh), some (eO (.iff e t), .sh), some (.dict (tD (tmk f.vs)), .own), some (.dict (tD (tmk cl)), .own), some (.str "if", .sh), none] : En))) (by simp [eO]) ?_
      refine later_i ?_
      rw [wp_sSeq]
      refine wp_of (y := (Out.nx, ([some (.dict (ePg pg), .sh), some (.tuple (ins.map .int), .sh), some (eSt ⟨fr0 ++ [f], cl, to, ak⟩, .sh), some (.tuple ((fr0 ++ [f]).map eFm), .sh), some (.tuple (cl.map eP), .sh), some (.tuple (to.map .int), .sh), some (.int (ak : Int), .sh), some (eFm f, .sh), some (.str f.nm, .sh), some (.int (f.pl : Int), .sh), some (eO (.iff e t), .sh), some (.dict (tD (tmk f.vs)), .own), some (.dict (tD (tmk cl)), .own), some (.str "if", .sh), none] : En))) (by simp) ?_
      refine later_i ?_
      rw [wp_sSeq]
      refine wp_of (y := (Out.nx, ([some (.dict (ePg pg), .sh), some (.tuple (ins.map .int), .sh), some (eSt ⟨fr0 ++ [f], cl, to, ak⟩, .sh), some (.tuple ((fr0 ++ [f]).map eFm), .sh), some (.tuple (cl.map eP), .sh), some (.tuple (to.map .int), .sh), some (.int (ak : Int), .sh), some (eFm f, .sh), some (.str f.nm, .sh), some (.int (f.pl : Int), .sh), some (eO (.iff e t), .sh), some (.dict (tD (tmk f.vs)), .own), some (.dict (tD (tmk cl)), .own), some (.str "if", .sh), none] : En))) (by simp) ?_
      refine later_i ?_
      rw [wp_sSeq]
      refine wp_of (y := (Out.nx, ([some (.dict (ePg pg), .sh), some (.tuple (ins.map .int), .sh), some (eSt ⟨fr0 ++ [f], cl, to, ak⟩, .sh), some (.tuple ((fr0 ++ [f]).map eFm), .sh), some (.tuple (cl.map eP), .sh), some (.tuple (to.map .int), .sh), some (.int (ak : Int), .sh), some (eFm f, .sh), some (.str f.nm, .sh), some (.int (f.pl : Int), .sh), some (eO (.iff e t), .sh), some (.dict (tD (tmk f.vs)), .own), some (.dict (tD (tmk cl)), .own), some (.str "if", .sh), some (.int ((f.pl : Int) + 1), .sh)] : En))) (by simp) ?_
      refine later_i ?_
      by_cases hz : wT (tmk f.vs) (tmk cl) e = 0
      · skip
        rw [wp_sSeq]
        refine wp_of (y := (Out.nx, ([some (.dict (ePg pg), .sh), some (.tuple (ins.map .int), .sh), some (eSt ⟨fr0 ++ [f], cl, to, ak⟩, .sh), some (.tuple ((fr0 ++ [f]).map eFm), .sh), some (.tuple (cl.map eP), .sh), some (.tuple (to.map .int), .sh), some (.int (ak : Int), .sh), some (eFm f, .sh), some (.str f.nm, .sh), some (.int (f.pl : Int), .sh), some (eO (.iff e t), .sh), some (.dict (tD (tmk f.vs)), .own), some (.dict (tD (tmk cl)), .own), some (.str "if", .sh), some (.int ((f.pl : Int) + 1), .sh)] : En))) (by simp [eO, l1, dNe_int, hz]) ?_
        refine later_i ?_
        rw [wp_sSeq]
        refine wp_of (y := (Out.nx, ([some (.dict (ePg pg), .sh), some (.tuple (ins.map .int), .sh), some (eSt ⟨fr0 ++ [f], cl, to, ak⟩, .sh), some (.tuple ((fr0 ++ [f]).map eFm), .sh), some (.tuple (cl.map eP), .sh), some (.tuple (to.map .int), .sh), some (.int (ak : Int), .sh), some (eFm f, .sh), some (.str f.nm, .sh), some (.int (f.pl : Int), .sh), some (eO (.iff e t), .sh), some (.dict (tD (tmk f.vs)), .own), some (.dict (tD (tmk cl)), .own), some (.str "if", .sh), some (.int ((f.pl : Int) + 1), .sh)] : En))) (by simp) ?_
        refine later_i ?_
        rw [wp_sSeq]
        refine wp_of (y := (Out.nx, ([some (.dict (ePg pg), .sh), some (.tuple (ins.map .int), .sh), some (eSt ⟨fr0 ++ [f], cl, to, ak⟩, .sh), some (.tuple ((fr0 ++ [f]).map eFm), .sh), some (.tuple (cl.map eP), .sh), some (.tuple (to.map .int), .sh), some (.int (ak : Int), .sh), some (eFm f, .sh), some (.str f.nm, .sh), some (.int (f.pl : Int), .sh), some (eO (.iff e t), .sh), some (.dict (tD (tmk f.vs)), .own), some (.dict (tD (tmk cl)), .own), some (.str "if", .sh), some (.int ((f.pl : Int) + 1), .sh)] : En))) (by simp) ?_
        refine later_i ?_
        rw [wp_sSeq]
        refine wp_of (y := (Out.nx, ([some (.dict (ePg pg), .sh), some (.tuple (ins.map .int), .sh), some (eSt ⟨fr0 ++ [f], cl, to, ak⟩, .sh), some (.tuple ((fr0 ++ [f]).map eFm), .sh), some (.tuple (cl.map eP), .sh), some (.tuple (to.map .int), .sh), some (.int (ak : Int), .sh), some (eFm f, .sh), some (.str f.nm, .sh), some (.int (f.pl : Int), .sh), some (eO (.iff e t), .sh), some (.dict (tD (tmk f.vs)), .own), some (.dict (tD (tmk cl)), .own), some (.str "if", .sh), some (.int ((f.pl : Int) + 1), .sh)] : En))) (by simp) ?_
        refine later_i ?_
        rw [wp_sSeq]
        refine wp_of (y := (Out.nx, ([some (.dict (ePg pg), .sh), some (.tuple (ins.map .int), .sh), some (eSt ⟨fr0 ++ [f], cl, to, ak⟩, .sh), some (.tuple ((fr0 ++ [f]).map eFm), .sh), some (.tuple (cl.map eP), .sh), some (.tuple (to.map .int), .sh), some (.int (ak : Int), .sh), some (eFm f, .sh), some (.str f.nm, .sh), some (.int (f.pl : Int), .sh), some (eO (.iff e t), .sh), some (.dict (tD (tmk f.vs)), .own), some (.dict (tD (tmk cl)), .own), some (.str "if", .sh), some (.int ((f.pl : Int) + 1), .sh)] : En))) (by simp) ?_
        refine later_i ?_
        refine wp_mono (tl f rfl rfl (f.pl + 1) _ to ak kc (by omega) _ _ _ _ _ _ _) ?_
        rintro ⟨o, en⟩ e9
        dsimp only at e9
        subst e9
        simp [opT, hz]
      · skip
        rw [wp_sSeq]
        refine wp_of (y := (Out.nx, ([some (.dict (ePg pg), .sh), some (.tuple (ins.map .int), .sh), some (eSt ⟨fr0 ++ [f], cl, to, ak⟩, .sh), some (.tuple ((fr0 ++ [f]).map eFm), .sh), some (.tuple (cl.map eP), .sh), some (.tuple (to.map .int), .sh), some (.int (ak : Int), .sh), some (eFm f, .sh), some (.str f.nm, .sh), some (.int (f.pl : Int), .sh), some (eO (.iff e t), .sh), some (.dict (tD (tmk f.vs)), .own), some (.dict (tD (tmk cl)), .own), some (.str "if", .sh), some (.int (t : Int), .sh)] : En))) (by simp [eO, l1, dNe_int, hz]) ?_
        refine later_i ?_
        rw [wp_sSeq]
        refine wp_of (y := (Out.nx, ([some (.dict (ePg pg), .sh), some (.tuple (ins.map .int), .sh), some (eSt ⟨fr0 ++ [f], cl, to, ak⟩, .sh), some (.tuple ((fr0 ++ [f]).map eFm), .sh), some (.tuple (cl.map eP), .sh), some (.tuple (to.map .int), .sh), some (.int (ak : Int), .sh), some (eFm f, .sh), some (.str f.nm, .sh), some (.int (f.pl : Int), .sh), some (eO (.iff e t), .sh), some (.dict (tD (tmk f.vs)), .own), some (.dict (tD (tmk cl)), .own), some (.str "if", .sh), some (.int (t : Int), .sh)] : En))) (by simp) ?_
        refine later_i ?_
        rw [wp_sSeq]
        refine wp_of (y := (Out.nx, ([some (.dict (ePg pg), .sh), some (.tuple (ins.map .int), .sh), some (eSt ⟨fr0 ++ [f], cl, to, ak⟩, .sh), some (.tuple ((fr0 ++ [f]).map eFm), .sh), some (.tuple (cl.map eP), .sh), some (.tuple (to.map .int), .sh), some (.int (ak : Int), .sh), some (eFm f, .sh), some (.str f.nm, .sh), some (.int (f.pl : Int), .sh), some (eO (.iff e t), .sh), some (.dict (tD (tmk f.vs)), .own), some (.dict (tD (tmk cl)), .own), some (.str "if", .sh), some (.int (t : Int), .sh)] : En))) (by simp) ?_
        refine later_i ?_
        rw [wp_sSeq]
        refine wp_of (y := (Out.nx, ([some (.dict (ePg pg), .sh), some (.tuple (ins.map .int), .sh), some (eSt ⟨fr0 ++ [f], cl, to, ak⟩, .sh), some (.tuple ((fr0 ++ [f]).map eFm), .sh), some (.tuple (cl.map eP), .sh), some (.tuple (to.map .int), .sh), some (.int (ak : Int), .sh), some (eFm f, .sh), some (.str f.nm, .sh), some (.int (f.pl : Int), .sh), some (eO (.iff e t), .sh), some (.dict (tD (tmk f.vs)), .own), some (.dict (tD (tmk cl)), .own), some (.str "if", .sh), some (.int (t : Int), .sh)] : En))) (by simp) ?_
        refine later_i ?_
        rw [wp_sSeq]
        refine wp_of (y := (Out.nx, ([some (.dict (ePg pg), .sh), some (.tuple (ins.map .int), .sh), some (eSt ⟨fr0 ++ [f], cl, to, ak⟩, .sh), some (.tuple ((fr0 ++ [f]).map eFm), .sh), some (.tuple (cl.map eP), .sh), some (.tuple (to.map .int), .sh), some (.int (ak : Int), .sh), some (eFm f, .sh), some (.str f.nm, .sh), some (.int (f.pl : Int), .sh), some (eO (.iff e t), .sh), some (.dict (tD (tmk f.vs)), .own), some (.dict (tD (tmk cl)), .own), some (.str "if", .sh), some (.int (t : Int), .sh)] : En))) (by simp) ?_
        refine later_i ?_
        refine wp_mono (tl f rfl rfl t _ to ak kc (by omega) _ _ _ _ _ _ _) ?_
        rintro ⟨o, en⟩ e9
        dsimp only at e9
        subst e9
        simp [opT, hz]
    | lt v e =>
      have l1 := low e hop.2
      have v1 := wv v hop.1 (wT (tmk f.vs) (tmk cl) e)
      generalize F_worth recN = B at l1 ⊢
      generalize F_with_variable = C at v1 ⊢
      rw [wp_sSeq]
      refine wp_of (y := (Out.nx, ([some (.dict (ePg pg), .sh), some (.tuple (ins.map .int), .sh), some (eSt ⟨fr0 ++ [f], cl, to, ak⟩, .sh), some (.tuple ((fr0 ++ [f]).map eFm), .sh), some (.tuple (cl.map eP), .sh), some (.tuple (to.map .int), .sh), some (.int (ak : Int), .sh), some (eFm f, .sh), some (.str f.nm, .sh), some (.int (f.pl : Int), .sh), some (eO (.lt v e), .sh), some (.dict (tD (tmk f.vs)), .own), some (.dict (tD (tmk cl)), .own), some (.str "let", .sh), none] : En))) (by simp [eO]) ?_
      refine later_i ?_
      rw [wp_sSeq]
      refine wp_of (y := (Out.nx, ([some (.dict (ePg pg), .sh), some (.tuple (ins.map .int), .sh), some (eSt ⟨fr0 ++ [f], cl, to, ak⟩, .sh), some (.tuple ((fr0 ++ [f]).map eFm), .sh), some (.tuple (cl.map eP), .sh), some (.tuple (to.map .int), .sh), some (.int (ak : Int), .sh), some (eFm f, .sh), some (.str f.nm, .sh), some (.int (f.pl : Int), .sh), some (eO (.lt v e), .sh), some (.dict (tD (tmk f.vs)), .own), some (.dict (tD (tmk cl)), .own), some (.str "let", .sh), none] : En))) (by simp) ?_
      refine later_i ?_
      rw [wp_sSeq]
      refine wp_of (y := (Out.nx, ([some (.dict (ePg pg), .sh), some (.tuple (ins.map .int), .sh), some (eSt ⟨fr0 ++ [f], cl, to, ak⟩, .sh), some (.tuple ((fr0 ++ [f]).map eFm), .sh), some (.tuple (cl.map eP), .sh), some (.tuple (to.map .int), .sh), some (.int (ak : Int), .sh), some (eFm f, .sh), some (.str f.nm, .sh), some (.int (f.pl : Int), .sh), some (eO (.lt v e), .sh), some (.dict (tD (tmk f.vs)), .own), some (.dict (tD (tmk cl)), .own), some (.str "let", .sh), none] : En))) (by simp) ?_
      refine later_i ?_
      rw [wp_sSeq]
      refine wp_of (y := (Out.nx, ([some (.dict (ePg pg), .sh), some (.tuple (ins.map .int), .sh), some (eSt ⟨fr0 ++ [f], cl, to, ak⟩, .sh), some (.tuple ((fr0 ++ [f]).map eFm), .sh), some (.tuple (cl.map eP), .sh), some (.tuple (to.map .int), .sh), some (.int (ak : Int), .sh), some (eFm f, .sh), some (.str f.nm, .sh), some (.int (f.pl : Int), .sh), some (eO (.lt v e), .sh), some (.dict (tD (tmk f.vs)), .own), some (.dict (tD (tmk cl)), .own), some (.str "let", .sh), some (.int ((f.pl : Int) + 1), .sh)] : En))) (by simp) ?_
      refine later_i ?_
      rw [wp_sSeq]
      refine wp_of (y := (Out.nx, ([some (.dict (ePg pg), .sh), some (.tuple (ins.map .int), .sh), some (eSt ⟨fr0 ++ [f], cl, to, ak⟩, .sh), some (.tuple ((fr0 ++ [f]).map eFm), .sh), some (.tuple (cl.map eP), .sh), some (.tuple (to.map .int), .sh), some (.int (ak : Int), .sh), some (eFm f, .sh), some (.str f.nm, .sh), some (.int (f.pl : Int), .sh), some (eO (.lt v e), .sh), some (.dict (tD (tmk f.vs)), .own), some (.dict (tD (tmk cl)), .own), some (.str "let", .sh), some (.int ((f.pl : Int) + 1), .sh)] : En))) (by simp) ?_
      refine later_i ?_
      rw [wp_sSeq]
      refine wp_of (y := (Out.nx, ([some (.dict (ePg pg), .sh), some (.tuple (ins.map .int), .sh), some (eSt ⟨fr0 ++ [f], cl, to, ak⟩, .sh), some (.tuple ((fr0 ++ [f]).map eFm), .sh), some (.tuple (cl.map eP), .sh), some (.tuple (to.map .int), .sh), some (.int (ak : Int), .sh), some (eFm ⟨f.nm, f.pl + 1, froz (tput (tmk f.vs) (.inr v) (wT (tmk f.vs) (tmk cl) e)), f.wt⟩, .sh), some (.str f.nm, .sh), some (.int (f.pl : Int), .sh), some (eO (.lt v e), .sh), some (.dict (tD (tmk f.vs)), .own), some (.dict (tD (tmk cl)), .own), some (.str "let", .sh), some (.int ((f.pl : Int) + 1), .sh)] : En))) (by simp [eO, l1, v1]) ?_
      refine later_i ?_
      rw [wp_sSeq]
      refine wp_of (y := (Out.nx, ([some (.dict (ePg pg), .sh), some (.tuple (ins.map .int), .sh), some (eSt ⟨fr0 ++ [f], cl, to, ak⟩, .sh), some (.tuple ((fr0 ++ [f]).map eFm), .sh), some (.tuple (cl.map eP), .sh), some (.tuple (to.map .int), .sh), some (.int (ak : Int), .sh), some (eFm ⟨f.nm, f.pl + 1, froz (tput (tmk f.vs) (.inr v) (wT (tmk f.vs) (tmk cl) e)), f.wt⟩, .sh), some (.str f.nm, .sh), some (.int (f.pl : Int), .sh), some (eO (.lt v e), .sh), some (.dict (tD (tmk f.vs)), .own), some (.dict (tD (tmk cl)), .own), some (.str "let", .sh), some (.int ((f.pl : Int) + 1), .sh)] : En))) (by simp) ?_
      refine later_i ?_
      rw [wp_sSeq]
      refine wp_of (y := (Out.nx, ([some (.dict (ePg pg), .sh), some (.tuple (ins.map .int), .sh), some (eSt ⟨fr0 ++ [f], cl, to, ak⟩, .sh), some (.tuple ((fr0 ++ [f]).map eFm), .sh), some (.tuple (cl.map eP), .sh), some (.tuple (to.map .int), .sh), some (.int (ak : Int), .sh), some (eFm ⟨f.nm, f.pl + 1, froz (tput (tmk f.vs) (.inr v) (wT (tmk f.vs) (tmk cl) e)), f.wt⟩, .sh), some (.str f.nm, .sh), some (.int (f.pl : Int), .sh), some (eO (.lt v e), .sh), some (.dict (tD (tmk f.vs)), .own), some (.dict (tD (tmk cl)), .own), some (.str "let", .sh), some (.int ((f.pl : Int) + 1), .sh)] : En))) (by simp) ?_
      refine later_i ?_
      rw [wp_sSeq]
      refine wp_of (y := (Out.nx, ([some (.dict (ePg pg), .sh), some (.tuple (ins.map .int), .sh), some (eSt ⟨fr0 ++ [f], cl, to, ak⟩, .sh), some (.tuple ((fr0 ++ [f]).map eFm), .sh), some (.tuple (cl.map eP), .sh), some (.tuple (to.map .int), .sh), some (.int (ak : Int), .sh), some (eFm ⟨f.nm, f.pl + 1, froz (tput (tmk f.vs) (.inr v) (wT (tmk f.vs) (tmk cl) e)), f.wt⟩, .sh), some (.str f.nm, .sh), some (.int (f.pl : Int), .sh), some (eO (.lt v e), .sh), some (.dict (tD (tmk f.vs)), .own), some (.dict (tD (tmk cl)), .own), some (.str "let", .sh), some (.int ((f.pl : Int) + 1), .sh)] : En))) (by simp) ?_
      refine later_i ?_
      refine wp_mono (tl ⟨f.nm, f.pl + 1, froz (tput (tmk f.vs) (.inr v) (wT (tmk f.vs) (tmk cl) e)), f.wt⟩ rfl rfl (f.pl + 1) _ to ak kc (by omega) _ _ _ _ _ _ _) ?_
      rintro ⟨o, en⟩ e9
      dsimp only at e9
      subst e9
      simp [opT]
    | ak v =>
      have v1 := wv v hop ((ins[ak]?).getD 0)
      generalize F_with_variable = C at v1 ⊢
      rw [wp_sSeq]
      refine wp_of (y := (Out.nx, ([some (.dict (ePg pg), .sh), some (.tuple (ins.map .int), .sh), some (eSt ⟨fr0 ++ [f], cl, to, ak⟩, .sh), some (.tuple ((fr0 ++ [f]).map eFm), .sh), some (.tuple (cl.map eP), .sh), some (.tuple (to.map .int), .sh), some (.int (ak : Int), .sh), some (eFm f, .sh), some (.str f.nm, .sh), some (.int (f.pl : Int), .sh), some (eO (.ak v), .sh), some (.dict (tD (tmk f.vs)), .own), some (.dict (tD (tmk cl)), .own), some (.str "ask", .sh), none] : En))) (by simp [eO]) ?_
      refine later_i ?_
      rw [wp_sSeq]
      refine wp_of (y := (Out.nx, ([some (.dict (ePg pg), .sh), some (.tuple (ins.map .int), .sh), some (eSt ⟨fr0 ++ [f], cl, to, ak⟩, .sh), some (.tuple ((fr0 ++ [f]).map eFm), .sh), some (.tuple (cl.map eP), .sh), some (.tuple (to.map .int), .sh), some (.int (ak : Int), .sh), some (eFm f, .sh), some (.str f.nm, .sh), some (.int (f.pl : Int), .sh), some (eO (.ak v), .sh), some (.dict (tD (tmk f.vs)), .own), some (.dict (tD (tmk cl)), .own), some (.str "ask", .sh), none] : En))) (by simp) ?_
      refine later_i ?_
      rw [wp_sSeq]
      refine wp_of (y := (Out.nx, ([some (.dict (ePg pg), .sh), some (.tuple (ins.map .int), .sh), some (eSt ⟨fr0 ++ [f], cl, to, ak⟩, .sh), some (.tuple ((fr0 ++ [f]).map eFm), .sh), some (.tuple (cl.map eP), .sh), some (.tuple (to.map .int), .sh), some (.int (ak : Int), .sh), some (eFm f, .sh), some (.str f.nm, .sh), some (.int (f.pl : Int), .sh), some (eO (.ak v), .sh), some (.dict (tD (tmk f.vs)), .own), some (.dict (tD (tmk cl)), .own), some (.str "ask", .sh), none] : En))) (by simp) ?_
      refine later_i ?_
      rw [wp_sSeq]
      refine wp_of (y := (Out.nx, ([some (.dict (ePg pg), .sh), some (.tuple (ins.map .int), .sh), some (eSt ⟨fr0 ++ [f], cl, to, ak⟩, .sh), some (.tuple ((fr0 ++ [f]).map eFm), .sh), some (.tuple (cl.map eP), .sh), some (.tuple (to.map .int), .sh), some (.int (ak : Int), .sh), some (eFm f, .sh), some (.str f.nm, .sh), some (.int (f.pl : Int), .sh), some (eO (.ak v), .sh), some (.dict (tD (tmk f.vs)), .own), some (.dict (tD (tmk cl)), .own), some (.str "ask", .sh), some (.int ((f.pl : Int) + 1), .sh)] : En))) (by simp) ?_
      refine later_i ?_
      rw [wp_sSeq]
      refine wp_of (y := (Out.nx, ([some (.dict (ePg pg), .sh), some (.tuple (ins.map .int), .sh), some (eSt ⟨fr0 ++ [f], cl, to, ak⟩, .sh), some (.tuple ((fr0 ++ [f]).map eFm), .sh), some (.tuple (cl.map eP), .sh), some (.tuple (to.map .int), .sh), some (.int (ak : Int), .sh), some (eFm f, .sh), some (.str f.nm, .sh), some (.int (f.pl : Int), .sh), some (eO (.ak v), .sh), some (.dict (tD (tmk f.vs)), .own), some (.dict (tD (tmk cl)), .own), some (.str "ask", .sh), some (.int ((f.pl : Int) + 1), .sh)] : En))) (by simp) ?_
      refine later_i ?_
      rw [wp_sSeq]
      refine wp_of (y := (Out.nx, ([some (.dict (ePg pg), .sh), some (.tuple (ins.map .int), .sh), some (eSt ⟨fr0 ++ [f], cl, to, ak⟩, .sh), some (.tuple ((fr0 ++ [f]).map eFm), .sh), some (.tuple (cl.map eP), .sh), some (.tuple (to.map .int), .sh), some (.int (ak : Int), .sh), some (eFm f, .sh), some (.str f.nm, .sh), some (.int (f.pl : Int), .sh), some (eO (.ak v), .sh), some (.dict (tD (tmk f.vs)), .own), some (.dict (tD (tmk cl)), .own), some (.str "ask", .sh), some (.int ((f.pl : Int) + 1), .sh)] : En))) (by simp) ?_
      refine later_i ?_
      rw [wp_sSeq]
      refine wp_of (y := (Out.nx, ([some (.dict (ePg pg), .sh), some (.tuple (ins.map .int), .sh), some (eSt ⟨fr0 ++ [f], cl, to, ak⟩, .sh), some (.tuple ((fr0 ++ [f]).map eFm), .sh), some (.tuple (cl.map eP), .sh), some (.tuple (to.map .int), .sh), some (.int ((ak : Int) + 1), .sh), some (eFm ⟨f.nm, f.pl + 1, froz (tput (tmk f.vs) (.inr v) ((ins[ak]?).getD 0)), f.wt⟩, .sh), some (.str f.nm, .sh), some (.int (f.pl : Int), .sh), some (eO (.ak v), .sh), some (.dict (tD (tmk f.vs)), .own), some (.dict (tD (tmk cl)), .own), some (.str "ask", .sh), some (.int ((f.pl : Int) + 1), .sh)] : En))) (by 
        by_cases ha : ak < ins.length
        · have ea : atI (ins.map PyData.int) (ak : Int) = some (.int ins[ak]) := atI_map ha
          rw [List.getElem?_eq_getElem ha] at v1 ⊢
          simp only [Option.getD_some] at v1 ⊢
          simp [e_sSeq, eO, ha, ea, v1]
        · rw [List.getElem?_eq_none (by omega)] at v1 ⊢
          simp only [Option.getD_none] at v1 ⊢
          simp [e_sSeq, eO, ha, v1]) ?_
      refine later_i ?_
      rw [wp_sSeq]
      refine wp_of (y := (Out.nx, ([some (.dict (ePg pg), .sh), some (.tuple (ins.map .int), .sh), some (eSt ⟨fr0 ++ [f], cl, to, ak⟩, .sh), some (.tuple ((fr0 ++ [f]).map eFm), .sh), some (.tuple (cl.map eP), .sh), some (.tuple (to.map .int), .sh), some (.int ((ak : Int) + 1), .sh), some (eFm ⟨f.nm, f.pl + 1, froz (tput (tmk f.vs) (.inr v) ((ins[ak]?).getD 0)), f.wt⟩, .sh), some (.str f.nm, .sh), some (.int (f.pl : Int), .sh), some (eO (.ak v), .sh), some (.dict (tD (tmk f.vs)), .own), some (.dict (tD (tmk cl)), .own), some (.str "ask", .sh), some (.int ((f.pl : Int) + 1), .sh)] : En))) (by simp) ?_
      refine later_i ?_
      rw [wp_sSeq]
      refine wp_of (y := (Out.nx, ([some (.dict (ePg pg), .sh), some (.tuple (ins.map .int), .sh), some (eSt ⟨fr0 ++ [f], cl, to, ak⟩, .sh), some (.tuple ((fr0 ++ [f]).map eFm), .sh), some (.tuple (cl.map eP), .sh), some (.tuple (to.map .int), .sh), some (.int ((ak : Int) + 1), .sh), some (eFm ⟨f.nm, f.pl + 1, froz (tput (tmk f.vs) (.inr v) ((ins[ak]?).getD 0)), f.wt⟩, .sh), some (.str f.nm, .sh), some (.int (f.pl : Int), .sh), some (eO (.ak v), .sh), some (.dict (tD (tmk f.vs)), .own), some (.dict (tD (tmk cl)), .own), some (.str "ask", .sh), some (.int ((f.pl : Int) + 1), .sh)] : En))) (by simp) ?_
      refine later_i ?_
      refine wp_mono (tl ⟨f.nm, f.pl + 1, froz (tput (tmk f.vs) (.inr v) ((ins[ak]?).getD 0)), f.wt⟩ rfl rfl (f.pl + 1) _ to (ak + 1) kc (by omega) _ _ _ _ _ _ _) ?_
      rintro ⟨o, en⟩ e9
      dsimp only at e9
      subst e9
      simp [opT]
    | pt a e =>
      have l1 := low a hop.1
      have l2 := low e hop.2
      generalize F_worth recN = B at l1 l2 ⊢
      have kg : KO ((tput (tmk cl) (.inl (wT (tmk f.vs) (tmk cl) a)) (wT (tmk f.vs) (tmk cl) e)).map (·.1)) := KO_cl (tput_all (P := fun q => ∃ i : Int, q.1 = .inl i) (tmk_all (P := fun k => ∃ i : Int, k = .inl i) h.cl) fun j => ⟨_, rfl⟩)
      have lg0 := tput_len (tmk cl) (.inl (wT (tmk f.vs) (tmk cl) a)) (wT (tmk f.vs) (tmk cl) e)
      have lt : (tD (tmk cl)).length < 16777216 := by unfold tD; rw [List.length_map]; omega
      rw [wp_sSeq]
      refine wp_of (y := (Out.nx, ([some (.dict (ePg pg), .sh), some (.tuple (ins.map .int), .sh), some (eSt ⟨fr0 ++ [f], cl, to, ak⟩, .sh), some (.tuple ((fr0 ++ [f]).map eFm), .sh), some (.tuple (cl.map eP), .sh), some (.tuple (to.map .int), .sh), some (.int (ak : Int), .sh), some (eFm f, .sh), some (.str f.nm, .sh), some (.int (f.pl : Int), .sh), some (eO (.pt a e), .sh), some (.dict (tD (tmk f.vs)), .own), some (.dict (tD (tmk cl)), .own), some (.str "put", .sh), none] : En))) (by simp [eO]) ?_
      refine later_i ?_
      rw [wp_sSeq]
      refine wp_of (y := (Out.nx, ([some (.dict (ePg pg), .sh), some (.tuple (ins.map .int), .sh), some (eSt ⟨fr0 ++ [f], cl, to, ak⟩, .sh), some (.tuple ((fr0 ++ [f]).map eFm), .sh), some (.tuple (cl.map eP), .sh), some (.tuple (to.map .int), .sh), some (.int (ak : Int), .sh), some (eFm f, .sh), some (.str f.nm, .sh), some (.int (f.pl : Int), .sh), some (eO (.pt a e), .sh), some (.dict (tD (tmk f.vs)), .own), some (.dict (tD (tmk cl)), .own), some (.str "put", .sh), none] : En))) (by simp) ?_
      refine later_i ?_
      rw [wp_sSeq]
      refine wp_of (y := (Out.nx, ([some (.dict (ePg pg), .sh), some (.tuple (ins.map .int), .sh), some (eSt ⟨fr0 ++ [f], cl, to, ak⟩, .sh), some (.tuple ((fr0 ++ [f]).map eFm), .sh), some (.tuple (cl.map eP), .sh), some (.tuple (to.map .int), .sh), some (.int (ak : Int), .sh), some (eFm f, .sh), some (.str f.nm, .sh), some (.int (f.pl : Int), .sh), some (eO (.pt a e), .sh), some (.dict (tD (tmk f.vs)), .own), some (.dict (tD (tmk cl)), .own), some (.str "put", .sh), none] : En))) (by simp) ?_
      refine later_i ?_
      rw [wp_sSeq]
      refine wp_of (y := (Out.nx, ([some (.dict (ePg pg), .sh), some (.tuple (ins.map .int), .sh), some (eSt ⟨fr0 ++ [f], cl, to, ak⟩, .sh), some (.tuple ((fr0 ++ [f]).map eFm), .sh), some (.tuple (cl.map eP), .sh), some (.tuple (to.map .int), .sh), some (.int (ak : Int), .sh), some (eFm f, .sh), some (.str f.nm, .sh), some (.int (f.pl : Int), .sh), some (eO (.pt a e), .sh), some (.dict (tD (tmk f.vs)), .own), some (.dict (tD (tmk cl)), .own), some (.str "put", .sh), some (.int ((f.pl : Int) + 1), .sh)] : En))) (by simp) ?_
      refine later_i ?_
      rw [wp_sSeq]
      refine wp_of (y := (Out.nx, ([some (.dict (ePg pg), .sh), some (.tuple (ins.map .int), .sh), some (eSt ⟨fr0 ++ [f], cl, to, ak⟩, .sh), some (.tuple ((fr0 ++ [f]).map eFm), .sh), some (.tuple (cl.map eP), .sh), some (.tuple (to.map .int), .sh), some (.int (ak : Int), .sh), some (eFm f, .sh), some (.str f.nm, .sh), some (.int (f.pl : Int), .sh), some (eO (.pt a e), .sh), some (.dict (tD (tmk f.vs)), .own), some (.dict (tD (tmk cl)), .own), some (.str "put", .sh), some (.int ((f.pl : Int) + 1), .sh)] : En))) (by simp) ?_
      refine later_i ?_
      rw [wp_sSeq]
      refine wp_of (y := (Out.nx, ([some (.dict (ePg pg), .sh), some (.tuple (ins.map .int), .sh), some (eSt ⟨fr0 ++ [f], cl, to, ak⟩, .sh), some (.tuple ((fr0 ++ [f]).map eFm), .sh), some (.tuple (cl.map eP), .sh), some (.tuple (to.map .int), .sh), some (.int (ak : Int), .sh), some (eFm f, .sh), some (.str f.nm, .sh), some (.int (f.pl : Int), .sh), some (eO (.pt a e), .sh), some (.dict (tD (tmk f.vs)), .own), some (.dict (tD (tmk cl)), .own), some (.str "put", .sh), some (.int ((f.pl : Int) + 1), .sh)] : En))) (by simp) ?_
      refine later_i ?_
      rw [wp_sSeq]
      refine wp_of (y := (Out.nx, ([some (.dict (ePg pg), .sh), some (.tuple (ins.map .int), .sh), some (eSt ⟨fr0 ++ [f], cl, to, ak⟩, .sh), some (.tuple ((fr0 ++ [f]).map eFm), .sh), some (.tuple (cl.map eP), .sh), some (.tuple (to.map .int), .sh), some (.int (ak : Int), .sh), some (eFm f, .sh), some (.str f.nm, .sh), some (.int (f.pl : Int), .sh), some (eO (.pt a e), .sh), some (.dict (tD (tmk f.vs)), .own), some (.dict (tD (tmk cl)), .own), some (.str "put", .sh), some (.int ((f.pl : Int) + 1), .sh)] : En))) (by simp) ?_
      refine later_i ?_
      rw [wp_sSeq]
      refine wp_of (y := (Out.nx, ([some (.dict (ePg pg), .sh), some (.tuple (ins.map .int), .sh), some (eSt ⟨fr0 ++ [f], cl, to, ak⟩, .sh), some (.tuple ((fr0 ++ [f]).map eFm), .sh), some (.tuple (cl.map eP), .sh), some (.tuple (to.map .int), .sh), some (.int (ak : Int), .sh), some (eFm f, .sh), some (.str f.nm, .sh), some (.int (f.pl : Int), .sh), some (eO (.pt a e), .sh), some (.dict (tD (tmk f.vs)), .own), some (.dict (tD (tput (tmk cl) (.inl (wT (tmk f.vs) (tmk cl) a)) (wT (tmk f.vs) (tmk cl) e))), .own), some (.str "put", .sh), some (.int ((f.pl : Int) + 1), .sh)] : En))) (by simp [eO, l1, l2, lt, dictPut_tD]) ?_
      refine later_i ?_
      rw [wp_sSeq]
      refine wp_of (y := (Out.nx, ([some (.dict (ePg pg), .sh), some (.tuple (ins.map .int), .sh), some (eSt ⟨fr0 ++ [f], cl, to, ak⟩, .sh), some (.tuple ((fr0 ++ [f]).map eFm), .sh), some (.tuple (cl.map eP), .sh), some (.tuple (to.map .int), .sh), some (.int (ak : Int), .sh), some (eFm f, .sh), some (.str f.nm, .sh), some (.int (f.pl : Int), .sh), some (eO (.pt a e), .sh), some (.dict (tD (tmk f.vs)), .own), some (.dict (tD (tput (tmk cl) (.inl (wT (tmk f.vs) (tmk cl) a)) (wT (tmk f.vs) (tmk cl) e))), .own), some (.str "put", .sh), some (.int ((f.pl : Int) + 1), .sh)] : En))) (by simp) ?_
      refine later_i ?_
      refine wp_mono (tl f rfl rfl (f.pl + 1) _ to ak kg (by omega) _ _ _ _ _ _ _) ?_
      rintro ⟨o, en⟩ e9
      dsimp only at e9
      subst e9
      simp [opT]
    | sy e =>
      have l1 := low e hop
      have h3 : to.length + 1 ≤ 16777216 := by omega
      generalize F_worth recN = B at l1 ⊢
      rw [wp_sSeq]
      refine wp_of (y := (Out.nx, ([some (.dict (ePg pg), .sh), some (.tuple (ins.map .int), .sh), some (eSt ⟨fr0 ++ [f], cl, to, ak⟩, .sh), some (.tuple ((fr0 ++ [f]).map eFm), .sh), some (.tuple (cl.map eP), .sh), some (.tuple (to.map .int), .sh), some (.int (ak : Int), .sh), some (eFm f, .sh), some (.str f.nm, .sh), some (.int (f.pl : Int), .sh), some (eO (.sy e), .sh), some (.dict (tD (tmk f.vs)), .own), some (.dict (tD (tmk cl)), .own), some (.str "say", .sh), none] : En))) (by simp [eO]) ?_
      refine later_i ?_
      rw [wp_sSeq]
      refine wp_of (y := (Out.nx, ([some (.dict (ePg pg), .sh), some (.tuple (ins.map .int), .sh), some (eSt ⟨fr0 ++ [f], cl, to, ak⟩, .sh), some (.tuple ((fr0 ++ [f]).map eFm), .sh), some (.tuple (cl.map eP), .sh), some (.tuple (to.map .int), .sh), some (.int (ak : Int), .sh), some (eFm f, .sh), some (.str f.nm, .sh), some (.int (f.pl : Int), .sh), some (eO (.sy e), .sh), some (.dict (tD (tmk f.vs)), .own), some (.dict (tD (tmk cl)), .own), some (.str "say", .sh), none] : En))) (by simp) ?_
      refine later_i ?_
      rw [wp_sSeq]
      refine wp_of (y := (Out.nx, ([some (.dict (ePg pg), .sh), some (.tuple (ins.map .int), .sh), some (eSt ⟨fr0 ++ [f], cl, to, ak⟩, .sh), some (.tuple ((fr0 ++ [f]).map eFm), .sh), some (.tuple (cl.map eP), .sh), some (.tuple (to.map .int), .sh), some (.int (ak : Int), .sh), some (eFm f, .sh), some (.str f.nm, .sh), some (.int (f.pl : Int), .sh), some (eO (.sy e), .sh), some (.dict (tD (tmk f.vs)), .own), some (.dict (tD (tmk cl)), .own), some (.str "say", .sh), none] : En))) (by simp) ?_
      refine later_i ?_
      rw [wp_sSeq]
      refine wp_of (y := (Out.nx, ([some (.dict (ePg pg), .sh), some (.tuple (ins.map .int), .sh), some (eSt ⟨fr0 ++ [f], cl, to, ak⟩, .sh), some (.tuple ((fr0 ++ [f]).map eFm), .sh), some (.tuple (cl.map eP), .sh), some (.tuple (to.map .int), .sh), some (.int (ak : Int), .sh), some (eFm f, .sh), some (.str f.nm, .sh), some (.int (f.pl : Int), .sh), some (eO (.sy e), .sh), some (.dict (tD (tmk f.vs)), .own), some (.dict (tD (tmk cl)), .own), some (.str "say", .sh), some (.int ((f.pl : Int) + 1), .sh)] : En))) (by simp) ?_
      refine later_i ?_
      rw [wp_sSeq]
      refine wp_of (y := (Out.nx, ([some (.dict (ePg pg), .sh), some (.tuple (ins.map .int), .sh), some (eSt ⟨fr0 ++ [f], cl, to, ak⟩, .sh), some (.tuple ((fr0 ++ [f]).map eFm), .sh), some (.tuple (cl.map eP), .sh), some (.tuple (to.map .int), .sh), some (.int (ak : Int), .sh), some (eFm f, .sh), some (.str f.nm, .sh), some (.int (f.pl : Int), .sh), some (eO (.sy e), .sh), some (.dict (tD (tmk f.vs)), .own), some (.dict (tD (tmk cl)), .own), some (.str "say", .sh), some (.int ((f.pl : Int) + 1), .sh)] : En))) (by simp) ?_
      refine later_i ?_
      rw [wp_sSeq]
      refine wp_of (y := (Out.nx, ([some (.dict (ePg pg), .sh), some (.tuple (ins.map .int), .sh), some (eSt ⟨fr0 ++ [f], cl, to, ak⟩, .sh), some (.tuple ((fr0 ++ [f]).map eFm), .sh), some (.tuple (cl.map eP), .sh), some (.tuple (to.map .int), .sh), some (.int (ak : Int), .sh), some (eFm f, .sh), some (.str f.nm, .sh), some (.int (f.pl : Int), .sh), some (eO (.sy e), .sh), some (.dict (tD (tmk f.vs)), .own), some (.dict (tD (tmk cl)), .own), some (.str "say", .sh), some (.int ((f.pl : Int) + 1), .sh)] : En))) (by simp) ?_
      refine later_i ?_
      rw [wp_sSeq]
      refine wp_of (y := (Out.nx, ([some (.dict (ePg pg), .sh), some (.tuple (ins.map .int), .sh), some (eSt ⟨fr0 ++ [f], cl, to, ak⟩, .sh), some (.tuple ((fr0 ++ [f]).map eFm), .sh), some (.tuple (cl.map eP), .sh), some (.tuple (to.map .int), .sh), some (.int (ak : Int), .sh), some (eFm f, .sh), some (.str f.nm, .sh), some (.int (f.pl : Int), .sh), some (eO (.sy e), .sh), some (.dict (tD (tmk f.vs)), .own), some (.dict (tD (tmk cl)), .own), some (.str "say", .sh), some (.int ((f.pl : Int) + 1), .sh)] : En))) (by simp) ?_
      refine later_i ?_
      rw [wp_sSeq]
      refine wp_of (y := (Out.nx, ([some (.dict (ePg pg), .sh), some (.tuple (ins.map .int), .sh), some (eSt ⟨fr0 ++ [f], cl, to, ak⟩, .sh), some (.tuple ((fr0 ++ [f]).map eFm), .sh), some (.tuple (cl.map eP), .sh), some (.tuple (to.map .int), .sh), some (.int (ak : Int), .sh), some (eFm f, .sh), some (.str f.nm, .sh), some (.int (f.pl : Int), .sh), some (eO (.sy e), .sh), some (.dict (tD (tmk f.vs)), .own), some (.dict (tD (tmk cl)), .own), some (.str "say", .sh), some (.int ((f.pl : Int) + 1), .sh)] : En))) (by simp) ?_
      refine later_i ?_
      rw [wp_sSeq]
      refine wp_of (y := (Out.nx, ([some (.dict (ePg pg), .sh), some (.tuple (ins.map .int), .sh), some (eSt ⟨fr0 ++ [f], cl, to, ak⟩, .sh), some (.tuple ((fr0 ++ [f]).map eFm), .sh), some (.tuple (cl.map eP), .sh), some (.tuple ((to ++ [wT (tmk f.vs) (tmk cl) e]).map .int), .sh), some (.int (ak : Int), .sh), some (eFm f, .sh), some (.str f.nm, .sh), some (.int (f.pl : Int), .sh), some (eO (.sy e), .sh), some (.dict (tD (tmk f.vs)), .own), some (.dict (tD (tmk cl)), .own), some (.str "say", .sh), some (.int ((f.pl : Int) + 1), .sh)] : En))) (by simp [eO, l1, h3]) ?_
      refine later_i ?_
      refine wp_mono (tl f rfl rfl (f.pl + 1) _ (to ++ [wT (tmk f.vs) (tmk cl) e]) ak kc (by omega) _ _ _ _ _ _ _) ?_
      rintro ⟨o, en⟩ e9
      dsimp only at e9
      subst e9
      simp [opT]
end Hd
namespace Hd
open PySem PySem.Spec L2 Fx
/-! ### what tables tell -/
theorem tget_none {ks : List (Key × Int)} {k : Key} (h : k ∉ ks.map (·.1)) : tget ks k = 0 := by
  unfold tget
  have : ks.find? (fun q => decide (q.1 = k)) = none := by
    rw [List.find?_eq_none]
    intro q hq e
    exact h (List.mem_map.mpr ⟨q, hq, of_decide_eq_true e⟩)
  rw [this]
  rfl
theorem tget_froz (ks : List (Key × Int)) (k : Key) : tget (froz ks) k = tget ks k := by
  have hf : froz ks = ((srtK (ks.map (·.1))).filter fun k => !decide (tget ks k = 0)).map fun k => (k, tget ks k) := rfl
  by_cases hk : k ∈ (srtK (ks.map (·.1))).filter fun k => !decide (tget ks k = 0)
  · rw [hf]
    exact tget_map ks _ hk
  · have h1 : tget (froz ks) k = 0 := tget_none fun h => hk (by
      rw [hf, List.map_map] at h
      obtain ⟨j, hj, e⟩ := List.mem_map.mp h
      have e : j = k := e
      exact e ▸ hj)
    rw [h1]
    by_cases hm : k ∈ ks.map (·.1)
    · by_cases hz : tget ks k = 0
      · exact hz.symm
      · exact absurd (List.mem_filter.mpr ⟨(srtK_perm _).mem_iff.mpr hm, by simpa using hz⟩) hk
    · exact (tget_none hm).symm
theorem tget_tput_eq (ks : List (Key × Int)) (k : Key) (i : Int) : tget (tput ks k i) k = i := by
  unfold tget tput
  by_cases h : (ks.any fun q => decide (q.1 = k)) = true
  · rw [if_pos h, List.find?_map]
    have : ((fun q : Key × Int => decide (q.1 = k)) ∘ fun q : Key × Int => if q.1 = k then (q.1, i) else q) = fun q => decide (q.1 = k) := by
      funext q
      simp only [Function.comp]
      split <;> simp_all
    rw [this]
    obtain ⟨q, hq, e⟩ := List.any_eq_true.mp h
    cases hf : ks.find? (fun q => decide (q.1 = k)) with
    | none => exact absurd e (List.find?_eq_none.mp hf q hq)
    | some p =>
      have : p.1 = k := by simpa using List.find?_some hf
      simp [this]
  · rw [if_neg h]
    have : ks.find? (fun q => decide (q.1 = k)) = none := by
      rw [List.find?_eq_none]
      intro q hq e
      exact h (List.any_eq_true.mpr ⟨q, hq, e⟩)
    rw [List.find?_append, this]
    simp
theorem tget_tput_ne (ks : List (Key × Int)) {k j : Key} (i : Int) (h : j ≠ k) : tget (tput ks k i) j = tget ks j := by
  unfold tget tput
  by_cases hk : (ks.any fun q => decide (q.1 = k)) = true
  · rw [if_pos hk, List.find?_map]
    have : ((fun q : Key × Int => decide (q.1 = j)) ∘ fun q : Key × Int => if q.1 = k then (q.1, i) else q) = fun q => decide (q.1 = j) := by
      funext q
      simp only [Function.comp]
      split <;> simp_all
    rw [this]
    cases hf : ks.find? (fun q => decide (q.1 = j)) with
    | none => rfl
    | some p =>
      have hp : p.1 = j := by simpa using List.find?_some hf
      have : ¬ p.1 = k := fun e => h (hp ▸ e)
      simp [this]
  · rw [if_neg hk, List.find?_append]
    have : [(k, i)].find? (fun q : Key × Int => decide (q.1 = j)) = none := by simp [Ne.symm h]
    rw [this, Option.or_none]
structure Vf (n : Nat) (vs : List (Key × Int)) : Prop where
  sv : SV vs
  len : vs.length ≤ n + 2
  nd : ND vs
structure Cf (n : Nat) (cl : List (Key × Int)) : Prop where
  iv : ∀ q ∈ cl, ∃ i : Int, q.1 = .inl i
  len : cl.length ≤ n
  nd : ND cl
  fz : froz cl = cl
theorem Vf.up {n : Nat} {vs : List (Key × Int)} (h : Vf n vs) : Vf (n + 1) vs := ⟨h.sv, by have := h.len; omega, h.nd⟩
theorem Vf.put {n : Nat} {vs : List (Key × Int)} (h : Vf n vs) {v : Str} (hv : PyData.strOk v = true) (i : Int) : Vf (n + 1) (froz (tput (tmk vs) (.inr v) i)) := by
  rw [tmk_id h.nd]
  refine ⟨froz_all (P := fun k => ∃ x : Str, k = .inr x ∧ PyData.strOk x = true) (tput_all (P := fun q => ∃ x : Str, q.1 = .inr x ∧ PyData.strOk x = true) h.sv fun j => ⟨v, rfl, hv⟩), ?_, froz_nd (tput_nd h.nd _ _)⟩
  have h1 := froz_len (tput vs (.inr v) i)
  have h2 := tput_len vs (.inr v) i
  have h3 := h.len
  omega
theorem Vf.arg (n : Nat) (i j : Int) : Vf n (froz (arg2 i j)) := ⟨froz_all (P := fun k => ∃ x : Str, k = .inr x ∧ PyData.strOk x = true) (arg2_sv i j), by
  have h1 := froz_len (arg2 i j)
  have h2 := arg2_len i j
  omega, froz_nd (tmk_nd _)⟩
/-- frozen tables of ints, by what they tell -/
theorem ints_sorted (xs : List Int) : (xs.mergeSort fun a b => decide (a ≤ b)).Pairwise (· ≤ ·) := srtI_le xs
theorem intK {ks : List Key} (h : ∀ k ∈ ks, ∃ i : Int, k = .inl i) : ∃ xs : List Int, ks = xs.map Sum.inl := by
  induction ks with
  | nil => exact ⟨[], rfl⟩
  | cons k ks ih =>
    obtain ⟨x, rfl⟩ := h k (List.mem_cons_self ..)
    obtain ⟨xs, rfl⟩ := ih fun j hj => h j (List.mem_cons_of_mem _ hj)
    exact ⟨x :: xs, rfl⟩
theorem srtK_ints (xs : List Int) : srtK (xs.map Sum.inl) = (srtI xs).map Sum.inl := by
  unfold srtK srtI
  rw [List.map_mergeSort (r := fun a b => decide (a ≤ b))]
  intro a _ b _
  exact (le_int a b).symm
theorem froz_ext {ks js : List (Key × Int)} (h1 : ∀ q ∈ ks, ∃ i : Int, q.1 = .inl i) (h2 : ∀ q ∈ js, ∃ i : Int, q.1 = .inl i) (n1 : ND ks) (n2 : ND js) (e : ∀ k, tget ks k = tget js k) : froz ks = froz js := by
  have key : ∀ ls : List (Key × Int), (∀ q ∈ ls, ∃ i : Int, q.1 = .inl i) → ND ls → ∃ xs : List Int, xs.Pairwise (· < ·) ∧ (∀ i, i ∈ xs ↔ tget ls (.inl i) ≠ 0) ∧ froz ls = xs.map fun i => ((.inl i : Key), tget ls (.inl i)) := by
    intro ls hi nd
    obtain ⟨xs, hx⟩ := intK (ks := ls.map (·.1)) fun k hk => by
      obtain ⟨q, hq, rfl⟩ := List.mem_map.mp hk
      exact hi q hq
    have nd : (ls.map (·.1)).Nodup := nd
    have ndx : xs.Nodup := by
      rw [hx] at nd
      exact (List.pairwise_map.mp nd).imp fun h e => h (by rw [e])
    refine ⟨(srtI xs).filter fun i => !decide (tget ls (.inl i) = 0), (srtI_lt ndx).filter _, fun i => ?_, ?_⟩
    · rw [List.mem_filter, srtI_mem]
      constructor
      · rintro ⟨_, h⟩
        simpa using h
      · intro h
        refine ⟨?_, by simpa using h⟩
        have : (.inl i : Key) ∈ ls.map (·.1) := by
          by_cases hm : (.inl i : Key) ∈ ls.map (·.1)
          · exact hm
          · exact absurd (tget_none hm) h
        rw [hx] at this
        obtain ⟨j, hj, e⟩ := List.mem_map.mp this
        cases e
        exact hj
    · unfold froz
      rw [hx, srtK_ints, List.filter_map, List.map_map]
      rfl
  obtain ⟨xs, x1, x2, x3⟩ := key ks h1 n1
  obtain ⟨ys, y1, y2, y3⟩ := key js h2 n2
  have : xs = ys := lt_uniq x1 y1 fun i => by rw [x2, y2, e]
  subst this
  rw [x3, y3]
  exact List.map_congr_left fun i _ => by rw [e]
theorem froz_frozI {ks : List (Key × Int)} (h : ∀ q ∈ ks, ∃ i : Int, q.1 = .inl i) (nd : ND ks) : froz (froz ks) = froz ks := froz_ext (froz_all (P := fun k => ∃ i : Int, k = .inl i) h) h (froz_nd nd) nd (tget_froz ks)
theorem Cf.up {n : Nat} {cl : List (Key × Int)} (h : Cf n cl) : Cf (n + 1) cl := ⟨h.iv, by have := h.len; omega, h.nd, h.fz⟩
theorem Cf.same {n : Nat} {cl : List (Key × Int)} (h : Cf n cl) : froz (tmk cl) = cl := by rw [tmk_id h.nd, h.fz]
theorem Cf.put {n : Nat} {cl : List (Key × Int)} (h : Cf n cl) (a i : Int) : Cf (n + 1) (froz (tput (tmk cl) (.inl a) i)) := by
  rw [tmk_id h.nd]
  have hi : ∀ q ∈ tput cl (.inl a) i, ∃ i : Int, q.1 = .inl i := tput_all (P := fun q => ∃ i : Int, q.1 = .inl i) h.iv fun j => ⟨a, rfl⟩
  refine ⟨froz_all (P := fun k => ∃ i : Int, k = .inl i) hi, ?_, froz_nd (tput_nd h.nd _ _), froz_frozI hi (tput_nd h.nd _ _)⟩
  have h1 := froz_len (tput cl (.inl a) i)
  have h2 := tput_len cl (.inl a) i
  have h3 := h.len
  omega
end Hd
namespace Hd
open PySem PySem.Spec L2 Fx
abbrev S (x : String) : Str := Str.ofString x
def vr (x : String) : Ex := .var (S x)
/-! ### the program -/
def codeM (c k b : Int) : List (Int × Op) := [(1, .ak (S "x")), (2, .lt (S "y") (.add (vr "x") (.num k))), (3, .pt (.num c) (vr "y")), (4, .cl (S "z") (S "f") (vr "y") (.num b)), (5, .pt (vr "z") (.sub (vr "z") (vr "z"))), (6, .sy (.cell (.num c)))]
def codeF : List (Int × Op) := [(7, .pt (vr "a") (.mul (vr "a") (vr "b"))), (8, .lt (S "c") (.cell (vr "a"))), (9, .iff (.less (vr "b") (.num 2)) 4), (10, .sy (vr "c")), (11, .gv (.add (vr "c") (.num 1)))]
def pgm (c k b : Int) : Prog := [(S "main", ⟨[], codeM c k b⟩), (S "f", ⟨[S "a", S "b"], codeF⟩)]
theorem mf : ¬ (S "main" = S "f") := by decide +kernel
theorem fm : ¬ (S "f" = S "main") := by decide +kernel
theorem pgM (c k b : Int) : pget (pgm c k b) (S "main") = some ⟨[], codeM c k b⟩ := by
  simp [pget, pgm]
theorem pgF (c k b : Int) : pget (pgm c k b) (S "f") = some ⟨[S "a", S "b"], codeF⟩ := by
  have := mf
  simp [pget, pgm, this]
theorem mf' : ¬ (Str.ofString "main" = Str.ofString "f") := mf
theorem fm' : ¬ (Str.ofString "f" = Str.ofString "main") := fm
theorem prog_ok {dr : List Int} (hd : Ok997 dr) (n : Nat) : ∃ (n' : Nat) (c k b : Int), 0 ≤ c ∧ c < 3 ∧ 0 ≤ k ∧ k < 5 ∧ 0 ≤ b ∧ b < 4 ∧ F__law_program (eW dr n) [] = some (.dict (ePg (pgm c k b)), true, eW dr n') := by
  obtain ⟨c, c0, c1, e1⟩ := next_ex hd n 3 (by decide)
  obtain ⟨k, k0, k1, e2⟩ := next_ex hd (n + 1) 5 (by decide)
  obtain ⟨b, b0, b1, e3⟩ := next_ex hd (n + 1 + 1) 4 (by decide)
  have fin : Wp (F__law_program (eW dr n) []) (fun y => y = (.dict (ePg (pgm c k b)), true, eW dr (n + 1 + 1 + 1))) := by
    show Wp (mkW 4 b__law_program _ _) _
    rw [mkW_e, wp_bind]
    show Wp (b__law_program [some (eW dr n, .lent), none, none, none]) _
    unfold b__law_program
    generalize F__law_next = A at e1 e2 e3 ⊢
    rw [wp_sSeq]
    simp [e1]
    refine later_i ?_
    rw [wp_sSeq]
    simp [e2]
    refine later_i ?_
    rw [wp_sSeq]
    simp [e3]
    refine later_i ?_
    rw [wp_sSeq]
    simp
    refine later_i ?_
    rw [wp_sSeq]
    simp
    refine later_i ?_
    simp [mf', fm', kD]
    refine wp_of (y := [((.inr (S "main") : Key), eFn ⟨[], codeM c k b⟩), (.inr (S "f"), eFn ⟨[S "a", S "b"], codeF⟩)]) rfl ?_
    have hm : mergeD [] [((.inr (S "main") : Key), eFn ⟨[], codeM c k b⟩), (.inr (S "f"), eFn ⟨[S "a", S "b"], codeF⟩)] = ePg (pgm c k b) := by
      simp [mergeD, Fx.dictPut, mf', fm', kD, ePg, pgm]
    simp [hm]
  exact ⟨_, c, k, b, c0, c1, k0, k1, b0, b1, wp_val fin⟩
end Hd
namespace Hd
open PySem PySem.Spec L2 Fx
theorem Vf.le {n m : Nat} {vs : List (Key × Int)} (h : Vf n vs) (e : n ≤ m) : Vf m vs := ⟨h.sv, by have := h.len; omega, h.nd⟩
theorem Cf.le {n m : Nat} {cl : List (Key × Int)} (h : Cf n cl) (e : n ≤ m) : Cf m cl := ⟨h.iv, by have := h.len; omega, h.nd, h.fz⟩
structure Bs (n : Nat) (s : Stt) : Prop where
  cf : Cf n s.cl
  c7 : tget s.cl (.inl 77) ≠ 5
  to : s.to.length ≤ n
/-- good states -/
structure GZ (n : Nat) (s : Stt) : Prop where
  gs : GS n s
  bs : Bs n s
inductive Ch (pg : Prog) (ins : List Int) : Nat → Stt → List Stt → Prop
  | fin {n : Nat} {s : Stt} : GZ n s → s.fr = [] → Ch pg ins n s [s]
  | nxt {n : Nat} {s t : Stt} {r : List Stt} : GZ n s → s.fr ≠ [] → F_step [.dict (ePg pg), .tuple (ins.map .int), eSt s] = some (eSt t, false) → (∃ l, t.to = s.to ++ l) → Ch pg ins (n + 1) t r → Ch pg ins n s (s :: r)
def kx (x : String) : Key := .inr (S x)
structure M (p n : Nat) (s : Stt) : Prop where
  ex : ∃ vs, s.fr = [⟨S "main", p, vs, none⟩] ∧ Vf n vs ∧ (p = 1 → 0 ≤ tget vs (kx "x") ∧ tget vs (kx "x") ≤ 3) ∧ (p = 2 ∨ p = 3 → 0 ≤ tget vs (kx "y") ∧ tget vs (kx "y") ≤ 7)
  bs : Bs n s
structure N (q n : Nat) (s : Stt) : Prop where
  ex : ∃ vs vs2, s.fr = [⟨S "main", 3, vs, none⟩, ⟨S "f", q, vs2, some (S "z")⟩] ∧ Vf n vs ∧ Vf n vs2 ∧ (q = 0 → 0 ≤ tget vs2 (kx "a") ∧ tget vs2 (kx "a") ≤ 7 ∧ 0 ≤ tget vs2 (kx "b") ∧ tget vs2 (kx "b") ≤ 3)
  n1 : 1 ≤ n
  bs : Bs n s
theorem Bs.gcl {n : Nat} {s : Stt} (h : Bs n s) : ∀ q ∈ s.cl, ∃ i : Int, q.1 = .inl i := h.cf.iv
theorem M.gz {p n : Nat} {s : Stt} (h : M p n s) : GZ n s := by
  obtain ⟨⟨vs, e, hv, _, _⟩, hb⟩ := h
  refine ⟨⟨fun f hf => ?_, fun f hf => ?_, fun f hf => ?_, hb.cf.iv, hb.cf.len, hb.to, ?_⟩, hb⟩
  · rw [e] at hf
    rw [List.mem_singleton.mp hf]
    exact ⟨ofS_ok _, hv.sv, hv.len⟩
  · rw [e] at hf; cases hf
  · rw [e] at hf; cases hf; rfl
  · rw [e]; simp
theorem N.gz {q n : Nat} {s : Stt} (h : N q n s) : GZ n s := by
  obtain ⟨⟨vs, vs2, e, hv, hv2, _⟩, hn, hb⟩ := h
  refine ⟨⟨fun f hf => ?_, fun f hf => ?_, fun f hf => ?_, hb.cf.iv, hb.cf.len, hb.to, ?_⟩, hb⟩
  · rw [e] at hf
    simp at hf
    rcases hf with rfl | rfl
    · exact ⟨ofS_ok _, hv.sv, hv.len⟩
    · exact ⟨ofS_ok _, hv2.sv, hv2.len⟩
  · rw [e] at hf
    simp at hf
    subst hf
    exact ⟨_, rfl, ofS_ok _⟩
  · rw [e] at hf; cases hf; rfl
  · rw [e]; simp; omega
theorem opM (c k b : Int) {p : Nat} {vs : List (Key × Int)} {w : Option Str} : opAt (pgm c k b) ⟨S "main", p, vs, w⟩ = (((codeM c k b)[p]?).map (·.2)).getD (.gv (.num 0)) := by
  unfold opAt
  rw [pgM]
theorem opF (c k b : Int) {p : Nat} {vs : List (Key × Int)} {w : Option Str} : opAt (pgm c k b) ⟨S "f", p, vs, w⟩ = ((codeF[p]?).map (·.2)).getD (.gv (.num 0)) := by
  unfold opAt
  rw [pgF]
/-- one step at the top of a stack -/
theorem stp {pg : Prog} {n : Nat} (hn : n ≤ 200) {ins : List Int} {fr0 : List Fm} {f : Fm} {cl : List (Key × Int)} {to : List Int} {ak : Nat} (h : GZ n ⟨fr0 ++ [f], cl, to, ak⟩) {o : Op} (ho : opAt pg f = o) (hf : ∃ F, pget pg f.nm = some F) (hg : gOp pg (tmk f.vs) (tmk cl) o) : F_step [.dict (ePg pg), .tuple (ins.map .int), eSt ⟨fr0 ++ [f], cl, to, ak⟩] = some (eSt (opT ins fr0 f ⟨fr0 ++ [f], cl, to, ak⟩ o), false) := by
  have := pstep_ok (pg := pg) hn ins h.gs (by simp) (fun f' hf' => by
    simp at hf'
    subst hf'
    exact hf) (fun f' hf' => by
    simp at hf'
    subst hf'
    rw [ho]
    exact hg)
  rw [this]
  unfold stepT
  simp [ho]
theorem Bs.up {n : Nat} {s t : Stt} (h : Bs n s) (e1 : t.cl = s.cl) (e2 : t.to.length ≤ s.to.length + 1) : Bs (n + 1) t := ⟨by rw [e1]; exact h.cf.up, by rw [e1]; exact h.c7, by have := h.to; omega⟩
theorem Bs.put {n : Nat} {s t : Stt} (h : Bs n s) {a i : Int} (e1 : t.cl = froz (tput (tmk s.cl) (.inl a) i)) (hk : a ≠ 77 ∨ i ≠ 5) (e2 : t.to = s.to) : Bs (n + 1) t := ⟨by rw [e1]; exact h.cf.put a i, by
  rw [e1, tget_froz, tmk_id h.cf.nd]
  by_cases ha : a = 77
  · subst ha
    rw [tget_tput_eq]
    exact hk.resolve_left fun z => z rfl
  · rw [tget_tput_ne]
    · exact h.c7
    · intro z
      cases z
      exact ha rfl, by rw [e2]; have := h.to; omega⟩
theorem froz_st {vs : List (Key × Int)} (k : Key) (x : Key) (i : Int) (nd : ND vs) : tget (froz (tput (tmk vs) x i)) k = tget (tput vs x i) k := by rw [tget_froz, tmk_id nd]
variable {c k b : Int} {i0 : Int}
/-- the run's end -/
theorem chEnd (n : Nat) {s : Stt} (hb : Bs n s) (h : s.fr = []) : Ch (pgm c k b) [i0] n s [s] := by
  refine .fin ⟨⟨fun f hf => ?_, fun f hf => ?_, fun f hf => ?_, hb.cf.iv, hb.cf.len, hb.to, by rw [h]; simp⟩, hb⟩ h
  · rw [h] at hf; cases hf
  · rw [h] at hf; cases hf
  · rw [h] at hf; cases hf
/-- runs with a length in sight -/
def Rl (c k b i0 : Int) (n : Nat) (s : Stt) (m : Nat) : Prop := ∃ r, Ch (pgm c k b) [i0] n s r ∧ m ≤ r.length ∧ r.length ≤ m + 1
theorem Rl.nx {n m : Nat} {s t : Stt} (g : GZ n s) (hne : s.fr ≠ []) (e : F_step [.dict (ePg (pgm c k b)), .tuple ([i0].map .int), eSt s] = some (eSt t, false)) (l : ∃ l, t.to = s.to ++ l) (h : Rl c k b i0 (n + 1) t m) : Rl c k b i0 n s (m + 1) := by
  obtain ⟨r, h1, h2, h3⟩ := h
  exact ⟨s :: r, .nxt g hne e l h1, by simp; omega, by simp; omega⟩
theorem pm6 {n : Nat} (hn : n ≤ 100) {s : Stt} (h : M 6 n s) : Rl c k b i0 n s 2 := by
  have gz := h.gz
  obtain ⟨⟨vs, e, hv, _, _⟩, hb⟩ := h
  obtain ⟨fr, cl, to, ak⟩ := s
  dsimp only at e
  subst e
  have st := stp (pg := pgm c k b) (n := n) (by omega) (ins := [i0]) (fr0 := []) gz (opM c k b) ⟨_, pgM c k b⟩ ⟨trivial, Nat.zero_le _⟩
  refine Rl.nx gz (by simp) st ⟨[], by simp [codeM, opT]⟩ ⟨_, chEnd _ (hb.up rfl (Nat.le_succ _)) rfl, by simp, by simp⟩
theorem pm5 {n : Nat} (hn : n ≤ 99) {s : Stt} (h : M 5 n s) : Rl c k b i0 n s 3 := by
  have gz := h.gz
  obtain ⟨⟨vs, e, hv, _, _⟩, hb⟩ := h
  obtain ⟨fr, cl, to, ak⟩ := s
  dsimp only at e
  subst e
  have st := stp (pg := pgm c k b) (n := n) (by omega) (ins := [i0]) (fr0 := []) gz (opM c k b) ⟨_, pgM c k b⟩ ⟨trivial, Nat.le_of_ble_eq_true rfl⟩
  refine Rl.nx gz (by simp) st ⟨_, rfl⟩ (pm6 (by omega) ⟨⟨vs, rfl, hv.up, by omega, by omega⟩, hb.up hb.cf.same (by simp [codeM, opT])⟩)
theorem pm4 {n : Nat} (hn : n ≤ 98) {s : Stt} (h : M 4 n s) : Rl c k b i0 n s 4 := by
  have gz := h.gz
  obtain ⟨⟨vs, e, hv, _, _⟩, hb⟩ := h
  obtain ⟨fr, cl, to, ak⟩ := s
  dsimp only at e
  subst e
  have st := stp (pg := pgm c k b) (n := n) (by omega) (ins := [i0]) (fr0 := []) gz (opM c k b) ⟨_, pgM c k b⟩ ⟨⟨trivial, Nat.le_of_ble_eq_true rfl⟩, ⟨trivial, trivial⟩, Nat.le_of_ble_eq_true rfl⟩
  refine Rl.nx gz (by simp) st ⟨[], by simp [codeM, opT]⟩ (pm5 (by omega) ⟨⟨vs, rfl, hv.up, by omega, by omega⟩, hb.put rfl (.inr ?_) rfl⟩)
  simp [wT, vr]
/-! ### the function -/
theorem giveE {vs vs2 : List (Key × Int)} {q : Nat} {i : Int} : giveT ([] ++ [⟨S "main", 3, vs, none⟩]) (some (S "z")) i = [⟨S "main", 4, froz (tput (tmk vs) (.inr (S "z")) i), none⟩] := rfl
theorem pf4 {n : Nat} (hn : n ≤ 97) {s : Stt} (h : N 4 n s) : Rl c k b i0 n s 5 := by
  have gz := h.gz
  obtain ⟨⟨vs, vs2, e, hv, hv2, _⟩, h1, hb⟩ := h
  obtain ⟨fr, cl, to, ak⟩ := s
  dsimp only at e
  subst e
  have st := stp (pg := pgm c k b) (n := n) (by omega) (ins := [i0]) (fr0 := [⟨S "main", 3, vs, none⟩]) gz (opF c k b) ⟨_, pgF c k b⟩ ⟨⟨trivial, trivial⟩, Nat.le_of_ble_eq_true rfl⟩
  refine Rl.nx gz (by simp) st ⟨[], by simp [codeF, opT]⟩ (pm4 (by omega) ⟨⟨_, rfl, hv.put (ofS_ok _) _, by omega, by omega⟩, hb.up rfl (by simp [codeF, opT])⟩)
theorem pf3 {n : Nat} (hn : n ≤ 96) {s : Stt} (h : N 3 n s) : Rl c k b i0 n s 6 := by
  have gz := h.gz
  obtain ⟨⟨vs, vs2, e, hv, hv2, _⟩, h1, hb⟩ := h
  obtain ⟨fr, cl, to, ak⟩ := s
  dsimp only at e
  subst e
  have st := stp (pg := pgm c k b) (n := n) (by omega) (ins := [i0]) (fr0 := [⟨S "main", 3, vs, none⟩]) gz (opF c k b) ⟨_, pgF c k b⟩ ⟨trivial, Nat.le_of_ble_eq_true rfl⟩
  refine Rl.nx gz (by simp) st ⟨_, rfl⟩ (pf4 (by omega) ⟨⟨vs, vs2, rfl, hv.up, hv2.up, by omega⟩, by omega, hb.up hb.cf.same (by simp [codeF, opT])⟩)
theorem Rl.le {n m : Nat} {s : Stt} (h : ∃ r, Ch (pgm c k b) [i0] n s r ∧ m ≤ r.length ∧ r.length ≤ m) : Rl c k b i0 n s m := by
  obtain ⟨r, h1, h2, h3⟩ := h
  exact ⟨r, h1, h2, by omega⟩
/-- longer runs by one -/
def Rk (c k b i0 : Int) (n : Nat) (s : Stt) (m : Nat) : Prop := ∃ r, Ch (pgm c k b) [i0] n s r ∧ m ≤ r.length ∧ r.length ≤ m + 2
theorem Rk.nx {n m : Nat} {s t : Stt} (g : GZ n s) (hne : s.fr ≠ []) (e : F_step [.dict (ePg (pgm c k b)), .tuple ([i0].map .int), eSt s] = some (eSt t, false)) (l : ∃ l, t.to = s.to ++ l) (h : Rk c k b i0 (n + 1) t m) : Rk c k b i0 n s (m + 1) := by
  obtain ⟨r, h1, h2, h3⟩ := h
  exact ⟨s :: r, .nxt g hne e l h1, by simp; omega, by simp; omega⟩
theorem pf2 {n : Nat} (hn : n ≤ 95) {s : Stt} (h : N 2 n s) : Rk c k b i0 n s 6 := by
  have gz := h.gz
  obtain ⟨⟨vs, vs2, e, hv, hv2, _⟩, h1, hb⟩ := h
  obtain ⟨fr, cl, to, ak⟩ := s
  dsimp only at e
  subst e
  have st := stp (pg := pgm c k b) (n := n) (by omega) (ins := [i0]) (fr0 := [⟨S "main", 3, vs, none⟩]) gz (opF c k b) ⟨_, pgF c k b⟩ ⟨⟨trivial, trivial⟩, Nat.le_of_ble_eq_true rfl⟩
  by_cases hc : wT (tmk vs2) (tmk cl) (.less (vr "b") (.num 2)) = 0
  · have h3 : N 3 (n + 1) (opT [i0] [⟨S "main", 3, vs, none⟩] ⟨S "f", 2, vs2, some (S "z")⟩ ⟨[⟨S "main", 3, vs, none⟩] ++ [⟨S "f", 2, vs2, some (S "z")⟩], cl, to, ak⟩ (.iff (.less (vr "b") (.num 2)) 4)) := ⟨⟨vs, vs2, by show (_ ++ [(⟨S "f", if wT (tmk vs2) (tmk cl) (.less (vr "b") (.num 2)) = 0 then 2 + 1 else 4, vs2, some (S "z")⟩ : Fm)] : List Fm) = _; rw [if_pos hc]; rfl, hv.up, hv2.up, by omega⟩, by omega, hb.up hb.cf.same (Nat.le_succ _)⟩
    refine Rk.nx (m := 5) gz (by simp) st ⟨[], by simp [codeF, opT]⟩ ?_
    obtain ⟨r, r1, r2, r3⟩ := pf3 (c := c) (k := k) (b := b) (i0 := i0) (by omega) h3
    exact ⟨r, r1, by omega, by omega⟩
  · have h3 : N 4 (n + 1) (opT [i0] [⟨S "main", 3, vs, none⟩] ⟨S "f", 2, vs2, some (S "z")⟩ ⟨[⟨S "main", 3, vs, none⟩] ++ [⟨S "f", 2, vs2, some (S "z")⟩], cl, to, ak⟩ (.iff (.less (vr "b") (.num 2)) 4)) := ⟨⟨vs, vs2, by show (_ ++ [(⟨S "f", if wT (tmk vs2) (tmk cl) (.less (vr "b") (.num 2)) = 0 then 2 + 1 else 4, vs2, some (S "z")⟩ : Fm)] : List Fm) = _; rw [if_neg hc]; rfl, hv.up, hv2.up, by omega⟩, by omega, hb.up hb.cf.same (Nat.le_succ _)⟩
    refine Rk.nx (m := 5) gz (by simp) st ⟨[], by simp [codeF, opT]⟩ ?_
    obtain ⟨r, r1, r2, r3⟩ := pf4 (c := c) (k := k) (b := b) (i0 := i0) (by omega) h3
    exact ⟨r, r1, by omega, by omega⟩
theorem pf1 {n : Nat} (hn : n ≤ 94) {s : Stt} (h : N 1 n s) : Rk c k b i0 n s 7 := by
  have gz := h.gz
  obtain ⟨⟨vs, vs2, e, hv, hv2, _⟩, h1, hb⟩ := h
  obtain ⟨fr, cl, to, ak⟩ := s
  dsimp only at e
  subst e
  have st := stp (pg := pgm c k b) (n := n) (by omega) (ins := [i0]) (fr0 := [⟨S "main", 3, vs, none⟩]) gz (opF c k b) ⟨_, pgF c k b⟩ ⟨ofS_ok _, trivial, Nat.le_of_ble_eq_true rfl⟩
  refine Rk.nx gz (by simp) st ⟨[], by simp [codeF, opT]⟩ (pf2 (by omega) ⟨⟨vs, _, rfl, hv.up, hv2.put (ofS_ok _) _, by omega⟩, by omega, hb.up hb.cf.same (by simp [codeF, opT])⟩)
theorem pf0 {n : Nat} (hn : n ≤ 93) {s : Stt} (h : N 0 n s) : Rk c k b i0 n s 8 := by
  have gz := h.gz
  obtain ⟨⟨vs, vs2, e, hv, hv2, hq⟩, h1, hb⟩ := h
  obtain ⟨a0, a1, b0, b1⟩ := hq rfl
  obtain ⟨fr, cl, to, ak⟩ := s
  dsimp only at e
  subst e
  have hid := tmk_id hv2.nd
  have hm : (wT (tmk vs2) (tmk cl) (vr "b")).natAbs < 18446744073709551616 := by
    show (tget (tmk vs2) (kx "b")).natAbs < _
    rw [hid]
    omega
  have st := stp (pg := pgm c k b) (n := n) (by omega) (ins := [i0]) (fr0 := [⟨S "main", 3, vs, none⟩]) gz (opF c k b) ⟨_, pgF c k b⟩ ⟨⟨trivial, Nat.le_of_ble_eq_true rfl⟩, ⟨trivial, trivial, hm⟩, Nat.le_of_ble_eq_true rfl⟩
  refine Rk.nx gz (by simp) st ⟨[], by simp [codeF, opT]⟩ (pf1 (by omega) ⟨⟨vs, vs2, rfl, hv.up, hv2.up, by omega⟩, by omega, hb.put rfl (.inl ?_) rfl⟩)
  show tget (tmk vs2) (kx "a") ≠ 77
  rw [hid]
  omega
theorem ax : ¬ (kx "b" = kx "a") := by decide +kernel
theorem argA (i j : Int) : tget (froz (arg2 i j)) (kx "a") = i ∧ tget (froz (arg2 i j)) (kx "b") = j := by
  have e : arg2 i j = tput (tput [] (kx "a") i) (kx "b") j := rfl
  rw [tget_froz, tget_froz, e]
  exact ⟨by rw [tget_tput_ne _ _ (fun z => ax z.symm), tget_tput_eq], tget_tput_eq _ _ _⟩
theorem pm3 (hb0 : 0 ≤ b) (hb1 : b ≤ 3) {n : Nat} (hn : n ≤ 92) {s : Stt} (h : M 3 n s) : Rk c k b i0 n s 9 := by
  have gz := h.gz
  obtain ⟨⟨vs, e, hv, _, hy⟩, hb⟩ := h
  obtain ⟨y0, y1⟩ := hy (.inr rfl)
  obtain ⟨fr, cl, to, ak⟩ := s
  dsimp only at e
  subst e
  have st := stp (pg := pgm c k b) (n := n) (by omega) (ins := [i0]) (fr0 := []) gz (opM c k b) ⟨_, pgM c k b⟩ ⟨ofS_ok _, ofS_ok _, ⟨_, pgF c k b, rfl⟩, ⟨trivial, Nat.le_of_ble_eq_true rfl⟩, ⟨trivial, Nat.le_of_ble_eq_true rfl⟩⟩
  have ag := argA (wT (tmk vs) (tmk cl) (vr "y")) (wT (tmk vs) (tmk cl) (.num b))
  have ey : wT (tmk vs) (tmk cl) (vr "y") = tget vs (kx "y") := by
    show tget (tmk vs) (kx "y") = _
    rw [tmk_id hv.nd]
  have eb : wT (tmk vs) (tmk cl) (.num b) = b := rfl
  refine Rk.nx gz (by simp) st ⟨[], by simp [codeM, opT]⟩ (pf0 (by omega) ⟨⟨vs, _, rfl, hv.up, Vf.arg _ _ _, fun _ => ⟨?_, ?_, ?_, ?_⟩⟩, by omega, hb.up rfl (by simp [codeM, opT])⟩)
  · rw [ag.1, ey]; exact y0
  · rw [ag.1, ey]; exact y1
  · rw [ag.2, eb]; exact hb0
  · rw [ag.2, eb]; exact hb1
theorem pm2 (hb0 : 0 ≤ b) (hb1 : b ≤ 3) {n : Nat} (hn : n ≤ 91) (hc : c ≤ 2) {s : Stt} (h : M 2 n s) : Rk c k b i0 n s 10 := by
  have gz := h.gz
  obtain ⟨⟨vs, e, hv, _, hy⟩, hb⟩ := h
  have y := hy (.inl rfl)
  obtain ⟨fr, cl, to, ak⟩ := s
  dsimp only at e
  subst e
  have st := stp (pg := pgm c k b) (n := n) (by omega) (ins := [i0]) (fr0 := []) gz (opM c k b) ⟨_, pgM c k b⟩ ⟨⟨trivial, Nat.le_of_ble_eq_true rfl⟩, trivial, Nat.le_of_ble_eq_true rfl⟩
  refine Rk.nx gz (by simp) st ⟨[], by simp [codeM, opT]⟩ (pm3 hb0 hb1 (by omega) ⟨⟨vs, rfl, hv.up, by omega, fun _ => y⟩, hb.put rfl (.inl ?_) rfl⟩)
  show c ≠ 77
  omega
theorem pm1 (hb0 : 0 ≤ b) (hb1 : b ≤ 3) {n : Nat} (hn : n ≤ 90) (hc : c ≤ 2) (k0 : 0 ≤ k) (k1 : k ≤ 4) {s : Stt} (h : M 1 n s) : Rk c k b i0 n s 11 := by
  have gz := h.gz
  obtain ⟨⟨vs, e, hv, hx, _⟩, hb⟩ := h
  obtain ⟨x0, x1⟩ := hx rfl
  obtain ⟨fr, cl, to, ak⟩ := s
  dsimp only at e
  subst e
  have st := stp (pg := pgm c k b) (n := n) (by omega) (ins := [i0]) (fr0 := []) gz (opM c k b) ⟨_, pgM c k b⟩ ⟨ofS_ok _, ⟨trivial, trivial⟩, Nat.le_of_ble_eq_true rfl⟩
  have ey : tget (froz (tput (tmk vs) (kx "y") (wT (tmk vs) (tmk cl) (.add (vr "x") (.num k))))) (kx "y") = tget vs (kx "x") + k := by
    rw [tget_froz, tget_tput_eq]
    show tget (tmk vs) (kx "x") + k = _
    rw [tmk_id hv.nd]
  refine Rk.nx gz (by simp) st ⟨[], by simp [codeM, opT]⟩ (pm2 hb0 hb1 (by omega) hc ⟨⟨_, rfl, hv.put (ofS_ok _) _, by omega, fun _ => ?_⟩, hb.up hb.cf.same (by simp [codeM, opT])⟩)
  refine ⟨?_, ?_⟩
  · exact ey ▸ (by omega)
  · exact ey ▸ (by omega)
theorem pm0 (hb0 : 0 ≤ b) (hb1 : b ≤ 3) (i1 : 0 ≤ i0) (i2 : i0 ≤ 3) {n : Nat} (hn : n ≤ 89) (hc : c ≤ 2) (k0 : 0 ≤ k) (k1 : k ≤ 4) {s : Stt} (h : M 0 n s) (ha : s.ak = 0) : Rk c k b i0 n s 12 := by
  have gz := h.gz
  obtain ⟨⟨vs, e, hv, _, _⟩, hb⟩ := h
  obtain ⟨fr, cl, to, ak⟩ := s
  dsimp only at e ha
  subst e
  subst ha
  have st := stp (pg := pgm c k b) (n := n) (by omega) (ins := [i0]) (fr0 := []) gz (opM c k b) ⟨_, pgM c k b⟩ (ofS_ok _)
  have ey : tget (froz (tput (tmk vs) (kx "x") i0)) (kx "x") = i0 := by
    rw [tget_froz, tget_tput_eq]
  refine Rk.nx gz (by simp) st ⟨[], by simp [codeM, opT]⟩ (pm1 hb0 hb1 (by omega) hc k0 k1 ⟨⟨_, rfl, hv.put (ofS_ok _) _, fun _ => ?_, by omega⟩, hb.up hb.cf.same (by simp [codeM, opT])⟩)
  refine ⟨?_, ?_⟩
  · show 0 ≤ tget (froz (tput (tmk vs) (kx "x") i0)) (kx "x")
    rw [ey]; exact i1
  · show tget (froz (tput (tmk vs) (kx "x") i0)) (kx "x") ≤ 3
    rw [ey]; exact i2
def first0 : Stt := ⟨[⟨S "main", 0, [], none⟩], [], [], 0⟩
theorem run_ex (hc : c ≤ 2) (k0 : 0 ≤ k) (k1 : k ≤ 4) (hb0 : 0 ≤ b) (hb1 : b ≤ 3) (i1 : 0 ≤ i0) (i2 : i0 ≤ 3) : Rk c k b i0 0 first0 12 := pm0 hb0 hb1 i1 i2 (by omega) hc k0 k1 ⟨⟨[], rfl, ⟨fun q hq => (by cases hq), by simp, List.nodup_nil⟩, by omega, by omega⟩, ⟨⟨fun q hq => (by cases hq), Nat.le_refl _, List.nodup_nil, by simp [first0, froz, srtK]⟩, by decide +kernel, Nat.le_refl _⟩⟩ rfl
end Hd
namespace Hd
open PySem PySem.Spec L2 Fx
theorem isover_ok {s : Stt} (h : ∀ f ∈ s.fr, Sh 3 (eFm f)) : F_is_over [eSt s] = some (.bool s.fr.isEmpty, false) := by
  have e1 := frs_eq h
  simp [F_is_over, b_is_over, eSt, e1]
theorem first_ok (d : D) : F_first [d] = some (eSt first0, false) := by
  simp [F_first, b_first, eSt, first0, eFm, oS]
def IRp (pg : Prog) (ins : List Int) (most : Nat) (run : List Stt) (m : Nat) (en : En) : Prop := ∃ (r0 : List Stt) (s : Stt) (rest : List Stt), run = r0 ++ s :: rest ∧ m = rest.length ∧ Ch pg ins r0.length s (s :: rest) ∧ en = [some (.dict (ePg pg), .sh), some (.tuple (ins.map .int), .sh), some (.int (most : Int), .sh), some (.list ((r0 ++ [s]).map eSt), .own)]
theorem runof_ok {pg : Prog} {ins : List Int} {most : Nat} {s0 : Stt} {run : List Stt} (hs0 : s0 = first0) (hr : Ch pg ins 0 s0 run) (hl : run.length ≤ most) (hm : most ≤ 100) : F_run_of [.dict (ePg pg), .tuple (ins.map .int), .int (most : Int)] = some (.tuple (run.map eSt), false) := by
  obtain ⟨tl0, rfl⟩ : ∃ tl0, run = s0 :: tl0 := by
    cases hr with
    | fin _ _ => exact ⟨_, rfl⟩
    | nxt _ _ _ _ _ => exact ⟨_, rfl⟩
  refine wp_val ?_
  show Wp (mk0 4 b_run_of _) _
  rw [mk0_e, wp_bind]
  show Wp (b_run_of [some (.dict (ePg pg), .sh), some (.tuple (ins.map .int), .sh), some (.int (most : Int), .sh), none]) _
  unfold b_run_of
  have ef := first_ok (.dict (ePg pg))
  rw [← hs0] at ef
  generalize F_first = A at ef ⊢
  rw [wp_sSeq]
  simp [ef]
  refine later_i ?_
  rw [wp_sSeq]
  have hl0 : tl0.length + 1 ≤ most := hl
  refine wp_mono (while_run (IRp pg ins most (s0 :: tl0)) (Q := fun y => y.1 = .nx ∧ y.2 = [some (.dict (ePg pg), .sh), some (.tuple (ins.map .int), .sh), some (.int (most : Int), .sh), some (.list ((s0 :: tl0).map eSt), .own)]) ?_ tl0.length _ _ ⟨[], s0, tl0, rfl, rfl, hr, rfl⟩ (by
    unfold fuelN
    omega)) ?_
  · rintro m en ⟨r0, s, rest, hrun, rfl, hch, rfl⟩
    have hl2 : r0.length + 1 + rest.length = tl0.length + 1 := by
      have := congrArg List.length hrun
      simp at this
      omega
    have hc : (r0.length : Int) + 1 ≤ (most : Int) := by omega
    cases hch with
    | fin gz h0 =>
      left
      have eo := isover_ok gz.gs.frsh
      rw [h0] at eo
      refine ⟨?_, rfl, by rw [hrun]⟩
      generalize F_is_over = B at eo ⊢
      simp at eo
      simp [hc, eo]
    | nxt gz hne est hto hch =>
      rename_i t
      right
      have eo := isover_ok gz.gs.frsh
      have hne2 : s.fr.isEmpty = false := by cases hh : s.fr with
        | nil => exact absurd hh hne
        | cons a b => rfl
      rw [hne2] at eo
      obtain ⟨rest2, rfl⟩ : ∃ rest2, rest = t :: rest2 := by
        cases hch with
        | fin _ _ => exact ⟨_, rfl⟩
        | nxt _ _ _ _ _ => exact ⟨_, rfl⟩
      rw [List.length_cons] at hl2
      have hz : r0.length + 1 < 16777216 := by omega
      generalize F_is_over = B at eo ⊢
      have hrest : IRp pg ins most (s0 :: tl0) rest2.length [some (.dict (ePg pg), .sh), some (.tuple (ins.map .int), .sh), some (.int (most : Int), .sh), some (.list (((r0 ++ [s]) ++ [t]).map eSt), .own)] := ⟨r0 ++ [s], t, rest2, by rw [hrun]; simp, rfl, by rw [List.length_append]; exact hch, rfl⟩
      generalize F_step = C at est ⊢
      refine ⟨by simp [hc, eo], rest2.length, rfl, ?_⟩
      simp [est, hz]
      rw [List.append_assoc, List.map_append] at hrest
      exact hrest
  · rintro ⟨o, en⟩ ⟨rfl, rfl⟩
    refine later_i ?_
    simp
/-! ### what a run is -/
theorem GZ.le {n m : Nat} {s : Stt} (h : GZ n s) (e : n ≤ m) : GZ m s := ⟨⟨fun f hf => ⟨(h.gs.fr f hf).nm, (h.gs.fr f hf).vs, Nat.le_trans (h.gs.fr f hf).len (by omega)⟩, h.gs.wt, h.gs.hd, h.gs.cl, Nat.le_trans h.gs.cn e, Nat.le_trans h.gs.to e, Nat.le_trans h.gs.fn (by omega)⟩, ⟨h.bs.cf.le e, h.bs.c7, Nat.le_trans h.bs.to e⟩⟩
/-- two states, one behind the other -/
structure Pr (s t : Stt) : Prop where
  gs : GZ 20 s
  gt : GZ 20 t
  to : ∃ l, t.to = s.to ++ l
structure Rn (run : List Stt) : Prop where
  all : ∀ s ∈ run, GZ 20 s
  nx : ∀ (k : Nat) s t, run[k]? = some s → run[k + 1]? = some t → Pr s t
  last : ∃ r0 s, run = r0 ++ [s] ∧ s.fr = []
theorem Ch.rn {pg : Prog} {ins : List Int} {n : Nat} {s : Stt} {run : List Stt} (h : Ch pg ins n s run) : n + run.length ≤ 21 → Rn run := by
  induction h with
  | fin g h0 =>
    rename_i n s
    intro hl
    refine ⟨fun s' hs => ?_, fun k s' t hs ht => ?_, ⟨[], s, rfl, h0⟩⟩
    · rw [List.mem_singleton.mp hs]
      exact g.le (by simp at hl; omega)
    · cases ht
  | nxt g hne est hto hch ih =>
    rename_i n s t r
    intro hl
    rw [List.length_cons] at hl
    have i := ih (by omega)
    have gs : GZ 20 s := g.le (by omega)
    refine ⟨fun s' hs => ?_, fun k s' t' hs ht => ?_, ?_⟩
    · rcases List.mem_cons.mp hs with rfl | hs
      · exact gs
      · exact i.all s' hs
    · cases k with
      | zero =>
        simp at hs
        subst hs
        have : t' = t := by
          cases hch with
          | fin _ _ => simpa using ht.symm
          | nxt _ _ _ _ _ => simpa using ht.symm
        subst this
        exact ⟨gs, i.all t' (by cases hch with
          | fin _ _ => simp
          | nxt _ _ _ _ _ => simp), hto⟩
      | succ k => exact i.nx k s' t' (by simpa using hs) (by simpa using ht)
    · obtain ⟨r0, s', e, h0⟩ := i.last
      exact ⟨s :: r0, s', by rw [e]; rfl, h0⟩
end Hd
namespace Hd
open PySem PySem.Spec L2 Fx
/-! ### what is alike is the same -/
inductive Pl : D → Prop
  | int (i : Int) : Pl (.int i)
  | str (x : Str) : Pl (.str x)
  | non : Pl .none
  | tup {ds : List D} (h : ∀ d ∈ ds, Pl d) : Pl (.tuple ds)
theorem Pl.eq {d : D} (h : Pl d) : ∀ e, Pl e → PyData.eqv d e = true → d = e := by
  induction h with
  | int i =>
    intro e he h
    cases he <;> simp [PyData.eqv] at h
    rw [h]
  | str x =>
    intro e he h
    cases he <;> simp [PyData.eqv] at h
    rw [h]
  | non =>
    intro e he h
    cases he <;> simp [PyData.eqv] at h
    rfl
  | tup hd ih =>
    rename_i ds
    intro e he h
    cases he with
    | tup he =>
      rename_i es
      have go : ∀ as bs : List D, (∀ a ∈ as, a ∈ ds) → (∀ b ∈ bs, Pl b) → PyData.eqvAll as bs = true → as = bs := by
        intro as
        induction as with
        | nil =>
          intro bs _ _ h
          cases bs with
          | nil => rfl
          | cons b bs => simp [PyData.eqvAll] at h
        | cons a as iha =>
          intro bs ha hb h
          cases bs with
          | nil => simp [PyData.eqvAll] at h
          | cons b bs =>
            rw [PyData.eqvAll, Bool.and_eq_true] at h
            rw [ih a (ha a (List.mem_cons_self ..)) b (hb b (List.mem_cons_self ..)) h.1, iha bs (fun x hx => ha x (List.mem_cons_of_mem _ hx)) (fun x hx => hb x (List.mem_cons_of_mem _ hx)) h.2]
      rw [go ds es (fun a h => h) he (by rw [PyData.eqv] at h; exact h)]
    | int i => simp [PyData.eqv] at h
    | str i => simp [PyData.eqv] at h
    | non => simp [PyData.eqv] at h
theorem eqv_pl {k j : Nat} {d e : D} (h1 : Pl d) (h2 : Pl e) (s1 : Sh k d) (s2 : Sh j e) : PyData.eqv d e = true ↔ d = e := ⟨h1.eq e h2, fun z => by rw [z]; exact SeqAt.eqv_refl _ s2.c⟩
theorem pl_map {α : Type} {f : α → D} (h : ∀ a, Pl (f a)) (as : List α) : Pl (.tuple (as.map f)) := .tup fun d hd => by
  obtain ⟨a, _, rfl⟩ := List.mem_map.mp hd
  exact h a
theorem pl_kD (k : Key) : Pl (kD k) := by
  cases k
  · exact .int _
  · exact .str _
theorem pl_eP (q : Key × Int) : Pl (eP q) := .tup fun d hd => by
  simp at hd
  rcases hd with rfl | rfl
  · exact pl_kD _
  · exact .int _
theorem pl_fm (f : Fm) : Pl (eFm f) := .tup fun d hd => by
  simp only [List.mem_cons, List.not_mem_nil, or_false] at hd
  rcases hd with rfl | rfl | rfl | rfl
  · exact .str _
  · exact .int _
  · exact pl_map pl_eP _
  · cases f.wt
    · exact .non
    · exact .str _
theorem pl_st (s : Stt) : Pl (eSt s) := .tup fun d hd => by
  simp only [List.mem_cons, List.not_mem_nil, or_false] at hd
  rcases hd with rfl | rfl | rfl | rfl
  · exact pl_map pl_fm _
  · exact pl_map pl_eP _
  · exact pl_map .int _
  · exact .int _
theorem kD_inj {a b : Key} (h : kD a = kD b) : a = b := by
  cases a <;> cases b <;> simp [kD] at h <;> rw [h]
theorem eP_inj {a b : Key × Int} (h : eP a = eP b) : a = b := by
  obtain ⟨a1, a2⟩ := a
  obtain ⟨b1, b2⟩ := b
  simp [eP] at h
  rw [kD_inj h.1, h.2]
theorem map_inj {α : Type} {f : α → D} (h : ∀ a b, f a = f b → a = b) : ∀ as bs : List α, as.map f = bs.map f → as = bs
  | [], [], _ => rfl
  | [], _ :: _, e => by cases e
  | _ :: _, [], e => by cases e
  | a :: as, b :: bs, e => by
    rw [List.map_cons, List.map_cons] at e
    obtain ⟨e1, e2⟩ := List.cons.inj e
    rw [h a b e1, map_inj h as bs e2]
theorem oS_inj {a b : Option Str} (h : oS a = oS b) : a = b := by
  cases a with
  | none => cases b with
    | none => rfl
    | some y => cases h
  | some x => cases b with
    | none => cases h
    | some y => rw [PyData.str.inj h]
theorem eFm_inj (a b : Fm) (h : eFm a = eFm b) : a = b := by
  obtain ⟨a1, a2, a3, a4⟩ := a
  obtain ⟨b1, b2, b3, b4⟩ := b
  unfold eFm at h
  have h := PyData.tuple.inj h
  simp only [List.cons.injEq, and_true] at h
  obtain ⟨h1, h2, h3, h4⟩ := h
  have h1 : a1 = b1 := PyData.str.inj h1
  have h2 : (a2 : Int) = b2 := PyData.int.inj h2
  have h3 : a3 = b3 := map_inj (fun a b e => eP_inj e) _ _ (PyData.tuple.inj h3)
  have h4 : a4 = b4 := oS_inj h4
  rw [h1, h3, h4, Int.ofNat.inj h2]
theorem eSt_inj {a b : Stt} (h : eSt a = eSt b) : a = b := by
  obtain ⟨a1, a2, a3, a4⟩ := a
  obtain ⟨b1, b2, b3, b4⟩ := b
  unfold eSt at h
  have h := PyData.tuple.inj h
  simp only [List.cons.injEq, and_true] at h
  obtain ⟨h1, h2, h3, h4⟩ := h
  have h1 : a1 = b1 := map_inj eFm_inj _ _ (PyData.tuple.inj h1)
  have h2 : a2 = b2 := map_inj (fun a b e => eP_inj e) _ _ (PyData.tuple.inj h2)
  have h3 : a3 = b3 := map_inj (fun a b e => PyData.int.inj e) _ _ (PyData.tuple.inj h3)
  have h4 : (a4 : Int) = b4 := PyData.int.inj h4
  rw [h1, h2, h3, Int.ofNat.inj h4]
/-! ### how far two lists agree -/
noncomputable def cp : List Fm → List Fm → Nat
  | [], _ => 0
  | _, [] => 0
  | a :: as, b :: bs => open Classical in if a = b then cp as bs + 1 else 0
theorem cp_take : ∀ as bs : List Fm, as.take (cp as bs) = bs.take (cp as bs)
  | [], _ => by simp [cp]
  | _ :: _, [] => by simp [cp]
  | a :: as, b :: bs => by
    unfold cp
    split
    · rename_i h
      rw [List.take_succ_cons, List.take_succ_cons, cp_take as bs, h]
    · rfl
theorem cp_le1 : ∀ as bs : List Fm, cp as bs ≤ as.length
  | [], _ => by simp [cp]
  | _ :: _, [] => by simp [cp]
  | a :: as, b :: bs => by
    unfold cp
    have := cp_le1 as bs
    split
    · simp; omega
    · simp
theorem cp_le2 : ∀ as bs : List Fm, cp as bs ≤ bs.length
  | [], _ => by simp [cp]
  | _ :: _, [] => by simp [cp]
  | a :: as, b :: bs => by
    unfold cp
    have := cp_le2 as bs
    split
    · simp; omega
    · simp
theorem cp_at {as bs : List Fm} {i : Nat} (h : i < cp as bs) : ∃ f, as[i]? = some f ∧ bs[i]? = some f := by
  have h1 := cp_le1 as bs
  have e := cp_take as bs
  have ha : as[i]? = some as[i] := List.getElem?_eq_getElem (by omega)
  refine ⟨_, ha, ?_⟩
  rw [← ha, ← List.getElem?_take_of_lt h, ← List.getElem?_take_of_lt (l := as) h, e]
theorem cp_end : ∀ (as bs : List Fm) (f g : Fm), as[cp as bs]? = some f → bs[cp as bs]? = some g → f ≠ g
  | [], _, f, g, h, _ => by cases h
  | _ :: _, [], f, g, _, h => by cases h
  | a :: as, b :: bs, f, g, h1, h2 => by
    unfold cp at h1 h2
    split at h1
    · rename_i h
      rw [if_pos h] at h2
      exact cp_end as bs f g (by simpa using h1) (by simpa using h2)
    · rename_i h
      rw [if_neg h] at h2
      simp at h1 h2
      rw [← h1, ← h2]
      exact h
/-! ### sets, in order -/
theorem keysD_k : ∀ ks : List Key, keysD (ks.map kD) = some ks
  | [] => rfl
  | k :: ks => by
    show ((keyD (kD k)).bind fun q => (keysD (ks.map kD)).bind fun t => some (q :: t)) = _
    rw [keysD_k ks]
    cases k <;> rfl
def sk (ks : List Key) : List Key := (dedK ks).mergeSort fun a b => PySem.W.dataLe false (fun d : D => d) (kD a) (kD b)
theorem srt_sk (ks : List Key) : srtD ((dedK ks).map kD) = (sk ks).map kD := by
  unfold sk srtD
  rw [List.map_mergeSort (s := PySem.W.dataLe false fun d : D => d)]
  intro a _ b _
  rfl
theorem sk_mem {ks : List Key} {k : Key} : k ∈ sk ks ↔ k ∈ ks := by
  unfold sk
  rw [(List.mergeSort_perm _ _).mem_iff, dedK_mem]
theorem sk_nd (ks : List Key) : (sk ks).Nodup := by
  unfold sk
  exact (List.mergeSort_perm _ _).nodup_iff.mpr (dedK_nd _)
theorem sk_len (ks : List Key) : (sk ks).length ≤ ks.length := by
  unfold sk
  rw [(List.mergeSort_perm _ _).length_eq]
  exact dedK_len ks
theorem sortSet_k {ks : List Key} (o : oneKind ks = true) (hz : ks.length ≤ 1000) : dSortSetK [.list (ks.map kD)] = some (.list ((sk ks).map kD), true) := by
  show (keysD (ks.map kD)).bind (fun ks => if ks.length ≤ 1000 ∧ oneKind ks = true then some (PyData.list (srtD ((dedK ks).map kD)), true) else none) = _
  rw [keysD_k]
  show (if ks.length ≤ 1000 ∧ oneKind ks = true then some (PyData.list (srtD ((dedK ks).map kD)), true) else none) = _
  rw [if_pos ⟨hz, o⟩, srt_sk]
/-! ### rows -/
structure Rw where
  go : Nat
  fr : List Fm
  ce : List (Key × Int)
  to : Nat
  ak : Nat
def eRw (r : Rw) : D := .tuple [.int (r.go : Int), .tuple (r.fr.map eFm), .tuple (r.ce.map eP), .int (r.to : Int), .int (r.ak : Int)]
theorem pl_rw (r : Rw) : Pl (eRw r) := .tup fun d hd => by
  simp only [List.mem_cons, List.not_mem_nil, or_false] at hd
  rcases hd with rfl | rfl | rfl | rfl | rfl
  · exact .int _
  · exact pl_map pl_fm _
  · exact pl_map pl_eP _
  · exact .int _
  · exact .int _
def ksU (s t : Stt) : List Key := sk (s.cl.map (·.1) ++ t.cl.map (·.1))
def dif (s t : Stt) (k : Key) : Bool := !decide (tget s.cl k = tget t.cl k)
noncomputable def rowT (s t : Stt) : Rw := ⟨t.fr.length - cp s.fr t.fr, s.fr.drop (cp s.fr t.fr), ((ksU s t).filter (dif s t)).map fun k => (k, tget s.cl k), s.to.length, s.ak⟩
theorem eq_fm {f g : Fm} (h1 : Sh 3 (eFm f)) (h2 : Sh 3 (eFm g)) : PyData.eqv (eFm f) (eFm g) = true ↔ f = g := by
  rw [eqv_pl (pl_fm f) (pl_fm g) h1 h2]
  exact ⟨eFm_inj f g, fun e => by rw [e]⟩
theorem oneU {s t : Stt} (hs : GZ 20 s) (ht : GZ 20 t) : oneKind (s.cl.map (·.1) ++ t.cl.map (·.1)) = true := by
  unfold oneKind
  rw [Bool.or_eq_true]
  refine .inl (List.all_eq_true.mpr fun k hk => ?_)
  rcases List.mem_append.mp hk with hk | hk
  · obtain ⟨q, hq, rfl⟩ := List.mem_map.mp hk
    obtain ⟨i, e⟩ := hs.gs.cl q hq
    rw [e]; rfl
  · obtain ⟨q, hq, rfl⟩ := List.mem_map.mp hk
    obtain ⟨i, e⟩ := ht.gs.cl q hq
    rw [e]; rfl
theorem eSt_1 (s : Stt) : dIxA (eSt s) (.int 1) = some (.tuple (s.cl.map eP), false) := by simp [eSt]
theorem eSt_2 (s : Stt) : dIxA (eSt s) (.int 2) = some (.tuple (s.to.map .int), false) := by simp [eSt]
theorem eSt_3 (s : Stt) : dIxA (eSt s) (.int 3) = some (.int (s.ak : Int), false) := by simp [eSt]
theorem dict_cl {n : Nat} {s : Stt} (h : GZ n s) : dDict [.tuple (s.cl.map eP)] = some (.dict (tD s.cl), true) := by
  simp [tmk_id h.bs.cf.nd]
theorem list_tD (ks : List (Key × Int)) : dListA [.dict (tD ks)] = some (.list ((ks.map (·.1)).map kD), true) := by
  show some (PyData.list ((tD ks).map (·.1)), true) = _
  unfold tD
  rw [List.map_map, List.map_map]
  rfl
end Hd
namespace Hd
open PySem PySem.Spec L2 Fx
/-- the loop's invariant -/
def IUr (s t : Stt) (xs : En) (m : Nat) (en : En) : Prop := ∃ i : Nat, i + m = cp s.fr t.fr ∧ en = some (eSt s, .sh) :: some (eSt t, .sh) :: some (.int (i : Int), .sh) :: xs
theorem fr_len {n : Nat} {s : Stt} (h : GZ n s) : s.fr.length ≤ n + 1 := h.gs.fn
theorem undo_loop {s t : Stt} (hs : GZ 20 s) (ht : GZ 20 t) (xs : En) : Wp (whileL (tAndF (tB1 (f2 (fSlot 2) (toO (fN (aCons (toO (fN (aCons (toO (f2 (fSlot 0) (svO (fC (.int 0))) dIxA)) (aNil)) dLen)) (aCons (toO (fN (aCons (toO (f2 (fSlot 1) (svO (fC (.int 0))) dIxA)) (aNil)) dLen)) (aNil))) dMin2)) (isI iLt))) (tB1 (f2 (toO (f2 (toO (f2 (fSlot 0) (svO (fC (.int 0))) dIxA)) (fSlot 2) dIxA)) (toO (f2 (toO (f2 (fSlot 1) (svO (fC (.int 0))) dIxA)) (fSlot 2) dIxA)) (dEq)))) (sAugN 2 (fC (.int 1)) zAdd) fuelN (some (eSt s, .sh) :: some (eSt t, .sh) :: some (.int 0, .sh) :: xs)) fun y => y = (.nx, some (eSt s, .sh) :: some (eSt t, .sh) :: some (.int (cp s.fr t.fr : Int), .sh) :: xs) := by
  have e1 := eSt_0 s
  have e2 := eSt_0 t
  have l1 := cp_le1 s.fr t.fr
  have l2 := cp_le2 s.fr t.fr
  have l3 := fr_len hs
  refine while_run (IUr s t xs) ?_ (cp s.fr t.fr) _ _ ⟨0, by omega, rfl⟩ (by unfold fuelN; omega)
  rintro m en ⟨i, hi, rfl⟩
  have mn : (if t.fr.length < s.fr.length then (t.fr.length : Int) else (s.fr.length : Int)) = ((min s.fr.length t.fr.length : Nat) : Int) := by
    split <;> omega
  cases m with
  | zero =>
    left
    have hi : i = cp s.fr t.fr := by omega
    subst hi
    refine ⟨?_, rfl⟩
    by_cases hc : cp s.fr t.fr < min s.fr.length t.fr.length
    · have h1 : s.fr[cp s.fr t.fr]? = some s.fr[cp s.fr t.fr] := List.getElem?_eq_getElem (by omega)
      have h2 : t.fr[cp s.fr t.fr]? = some t.fr[cp s.fr t.fr] := List.getElem?_eq_getElem (by omega)
      have hne := cp_end s.fr t.fr _ _ h1 h2
      generalize hf : s.fr[cp s.fr t.fr] = f at *
      generalize hg : t.fr[cp s.fr t.fr] = g at *
      have sf := hs.gs.frsh f (List.mem_of_getElem? h1)
      have sg := ht.gs.frsh g (List.mem_of_getElem? h2)
      have eq : dEq (eFm f) (eFm g) = some (.bool false, false) := by
        rw [dEq_of sf sg (by omega) (by omega)]
        have : PyData.eqv (eFm f) (eFm g) = false := by
          rw [Bool.eq_false_iff]
          exact fun z => hne ((eq_fm sf sg).mp z)
        rw [this]
      have a1 : atI (s.fr.map eFm) (cp s.fr t.fr : Int) = some (eFm f) := at_nat (by rw [List.getElem?_map, h1]; rfl)
      have a2 : atI (t.fr.map eFm) (cp s.fr t.fr : Int) = some (eFm g) := at_nat (by rw [List.getElem?_map, h2]; rfl)
      have hc2 : (cp s.fr t.fr : Int) < ((min s.fr.length t.fr.length : Nat) : Int) := by omega
      generalize min s.fr.length t.fr.length = mm at mn hc2
      generalize eSt s = S1 at *
      generalize eSt t = S2 at *
      simp [e1, e2, mn, hc2, a1, a2, eq]
    · have hc2 : ¬ (cp s.fr t.fr : Int) < ((min s.fr.length t.fr.length : Nat) : Int) := by omega
      generalize min s.fr.length t.fr.length = mm at mn hc2
      generalize eSt s = S1 at *
      generalize eSt t = S2 at *
      simp [e1, e2, mn, hc2]
  | succ m =>
    right
    obtain ⟨f, h1, h2⟩ := cp_at (as := s.fr) (bs := t.fr) (i := i) (by omega)
    have sf := hs.gs.frsh f (List.mem_of_getElem? h1)
    have eq : dEq (eFm f) (eFm f) = some (.bool true, false) := by
      rw [dEq_of sf sf (by omega) (by omega), SeqAt.eqv_refl _ sf.c]
    have a1 : atI (s.fr.map eFm) (i : Int) = some (eFm f) := at_nat (by rw [List.getElem?_map, h1]; rfl)
    have a2 : atI (t.fr.map eFm) (i : Int) = some (eFm f) := at_nat (by rw [List.getElem?_map, h2]; rfl)
    have hc2 : (i : Int) < ((min s.fr.length t.fr.length : Nat) : Int) := by omega
    generalize min s.fr.length t.fr.length = mm at mn hc2
    have hI : IUr s t xs m (some (eSt s, .sh) :: some (eSt t, .sh) :: some (.int ((i : Int) + 1), .sh) :: xs) := ⟨i + 1, by omega, rfl⟩
    generalize eSt s = S1 at *
    generalize eSt t = S2 at *
    refine ⟨by simp [e1, e2, mn, hc2, a1, a2, eq], m, rfl, ?_⟩
    simp
    exact hI
theorem fr_sl (s : Stt) (i : Nat) : dSl (.tuple (s.fr.map eFm)) (some (i : Int)) none = some (.tuple ((s.fr.drop i).map eFm), false) := by
  rw [dSl_td, List.map_drop]
theorem undo_row_ok {s t : Stt} (hs : GZ 20 s) (ht : GZ 20 t) : F_undo_row [eSt s, eSt t] = some (eRw (rowT s t), false) := by
  have loop := fun xs => undo_loop hs ht xs
  have e0 := eSt_0 s
  have e0t := eSt_0 t
  have e1 := eSt_1 s
  have e1t := eSt_1 t
  have e2 := eSt_2 s
  have e3 := eSt_3 s
  have d1 := dict_cl hs
  have d2 := dict_cl ht
  have k1 := list_tD s.cl
  have k2 := list_tD t.cl
  have fl := fr_sl s (cp s.fr t.fr)
  have l1 := cp_le1 s.fr t.fr
  have l2 := cp_le2 s.fr t.fr
  have ss := sortSet_k (oneU hs ht) (by
    have := hs.gs.cn
    have := ht.gs.cn
    simp; omega)
  have hsub : ((t.fr.length : Int) - (cp s.fr t.fr : Int)) = ((t.fr.length - cp s.fr t.fr : Nat) : Int) := by omega
  refine wp_val ?_
  show Wp (mk0 7 b_undo_row _) _
  rw [mk0_e, wp_bind]
  show Wp (b_undo_row [some (eSt s, .sh), some (eSt t, .sh), none, none, none, none, none]) _
  have hrow : eRw (rowT s t) = .tuple [.int ((t.fr.length - cp s.fr t.fr : Nat) : Int), .tuple ((s.fr.drop (cp s.fr t.fr)).map eFm), .tuple (((ksU s t).filter (dif s t)).map fun k => eP (k, tget s.cl k)), .int (s.to.length : Int), .int (s.ak : Int)] := by
    unfold eRw rowT
    rw [List.map_map]
    rfl
  have hkl : (ksU s t).length ≤ 1000 := by
    have h1 := sk_len (s.cl.map (·.1) ++ t.cl.map (·.1))
    have := hs.gs.cn
    have := ht.gs.cn
    unfold ksU
    simp at h1
    omega
  rw [hrow]
  generalize cp s.fr t.fr = C at *
  generalize eSt s = S1 at *
  generalize eSt t = S2 at *
  unfold b_undo_row
  rw [wp_sSeq]
  simp
  refine later_i ?_
  rw [wp_sSeq]
  refine wp_mono (loop _) ?_
  rintro ⟨o, en⟩ he
  cases he
  refine later_i ?_
  rw [wp_sSeq]
  simp [e1, e1t, tmk_id hs.bs.cf.nd, tmk_id ht.bs.cf.nd]
  refine later_i ?_
  rw [wp_sSeq]
  have hlc : ∀ (x5 x6 : Option (D × Fl)), fLc [6] (itV (toV (fN (aCons (toO (f2 (toO (fN (aCons (fSlot 3) (aNil)) dListA)) (toO (fN (aCons (fSlot 4) (aNil)) dListA)) (dAdd))) (aNil)) dSortSetK))) (gN 6) (tB1 (f2 (toO (fMeth (fSlot 3) isDct (aCons (fSlot 6) (aCons (svO (fC (.int 0))) (aNil))) dGetM)) (toO (fMeth (fSlot 4) isDct (aCons (fSlot 6) (aCons (svO (fC (.int 0))) (aNil))) dGetM)) (dNe))) (fTup (lCons (fName 6) (lCons (toV (fMeth (fSlot 3) isDct (aCons (fSlot 6) (aCons (svO (fC (.int 0))) (aNil))) dGetM)) (lNil)))) [some (S1, .sh), some (S2, .sh), some (.int (C : Int), .sh), some (.dict (tD s.cl), .own), some (.dict (tD t.cl), .own), x5, x6] = some (.list (((ksU s t).filter (dif s t)).map fun k => eP (k, tget s.cl k)), true, [some (S1, .sh), some (S2, .sh), some (.int (C : Int), .sh), some (.dict (tD s.cl), .own), some (.dict (tD t.cl), .own), x5, x6]) := fun x5 x6 => by
    refine (fLc_typ kD (ksU s t) (dif s t) (fun k => eP (k, tget s.cl k)) (en1 := [some (S1, .sh), some (S2, .sh), some (.int (C : Int), .sh), some (.dict (tD s.cl), .own), some (.dict (tD t.cl), .own), x5, x6]) ?_ rfl rfl (by rw [sl_ok]; omega) (fun k hk => ?_)).trans ?_
    · rw [e_itV]
      rw [List.map_append] at ss
      unfold ksU
      have hz : s.cl.length + t.cl.length ≤ 16777216 := by
        have := hs.gs.cn
        have := ht.gs.cn
        omega
      simp [k1, k2, -List.map_map, hz, ss]
    · refine ⟨[some (S1, .sh), some (S2, .sh), some (.int (C : Int), .sh), some (.dict (tD s.cl), .own), some (.dict (tD t.cl), .own), x5, some (kD k, .sh)], ?_, ?_, fun _ => ?_, rfl⟩
      · simp [wipeE]
      · have g1 := dGetM_tD s.cl (x := kD k) (k := k) (by cases k <;> rfl)
        have g2 := dGetM_tD t.cl (x := kD k) (k := k) (by cases k <;> rfl)
        simp [g1, g2, dNe_int, dif]
      · have g1 := dGetM_tD s.cl (x := kD k) (k := k) (by cases k <;> rfl)
        simp [g1, eP]
    · rfl
  simp [hlc]
  refine later_i ?_
  simp [e0, e0t, hsub, fl, e2, e3]
end Hd
namespace Hd
open PySem PySem.Spec L2 Fx
def putT (ks : List (Key × Int)) (ce : List (Key × Int)) : List (Key × Int) := ce.foldl (fun a q => tput a q.1 q.2) ks
def undT (t : Stt) (r : Rw) : Stt := ⟨t.fr.take (t.fr.length - r.go) ++ r.fr, froz (putT t.cl r.ce), t.to.take r.to, r.ak⟩
/-- a good row -/
structure GR (t : Stt) (r : Rw) : Prop where
  go : r.go ≤ t.fr.length
  fr : r.fr.length ≤ 100
  ce : ∀ q ∈ r.ce, ∃ i : Int, q.1 = .inl i
  cn : r.ce.length ≤ 100
def IUn (fix : En → En) (fin : List (Key × Int)) (ds : List D) (en : En) : Prop := ∃ (ks rest : List (Key × Int)) (x8 x9 : Option (D × Bool)), ds = rest.map eP ∧ putT ks rest = fin ∧ ks.length + rest.length ≤ 1000 ∧ en = fix [some (.dict (tD ks), .own), jk x8, jk x9, none]
theorem putT_iv : ∀ (ce ks : List (Key × Int)), (∀ q ∈ ks, ∃ i : Int, q.1 = .inl i) → (∀ q ∈ ce, ∃ i : Int, q.1 = .inl i) → ∀ q ∈ putT ks ce, ∃ i : Int, q.1 = .inl i
  | [], ks, h, _ => h
  | c :: ce, ks, h, h2 => putT_iv ce _ (tput_all (P := fun q => ∃ i : Int, q.1 = .inl i) h fun j => h2 c (List.mem_cons_self ..)) fun q hq => h2 q (List.mem_cons_of_mem _ hq)
theorem putT_len : ∀ (ce ks : List (Key × Int)), (putT ks ce).length ≤ ks.length + ce.length
  | [], ks => Nat.le_refl _
  | c :: ce, ks => by
    have h1 := putT_len ce (tput ks c.1 c.2)
    have h2 := tput_len ks c.1 c.2
    show (putT (tput ks c.1 c.2) ce).length ≤ _
    simp
    omega
theorem putT_nd : ∀ (ce ks : List (Key × Int)), ND ks → ND (putT ks ce)
  | [], ks, h => h
  | c :: ce, ks, h => putT_nd ce _ (tput_nd h _ _)
theorem undone_ok {n : Nat} (hn : n ≤ 100) {t : Stt} (ht : GZ n t) {r : Rw} (hr : GR t r) : F_undone [eSt t, eRw r] = some (eSt (undT t r), false) := by
  have e0 := eSt_0 t
  have e1 := eSt_1 t
  have e2 := eSt_2 t
  have iv := putT_iv r.ce t.cl ht.gs.cl hr.ce
  have ln := putT_len r.ce t.cl
  have hcn := ht.gs.cn
  have hce := hr.cn
  have hfn := ht.gs.fn
  have hfr := hr.fr
  have hgo := hr.go
  have pf := pfz (ks := putT t.cl r.ce) (KO_cl iv) (by omega)
  have hsub : ((t.fr.length : Int) - (r.go : Int)) = ((t.fr.length - r.go : Nat) : Int) := by omega
  have hres : eSt (undT t r) = .tuple [.tuple ((t.fr.take (t.fr.length - r.go) ++ r.fr).map eFm), .tuple ((froz (putT t.cl r.ce)).map eP), .tuple ((t.to.take r.to).map .int), .int (r.ak : Int)] := rfl
  rw [hres]
  have hz : (t.fr.take (t.fr.length - r.go)).length + r.fr.length ≤ 16777216 := by
    rw [List.length_take]
    omega
  refine wp_val ?_
  show Wp (mk0 11 b_undone _) _
  rw [mk0_e, wp_bind]
  show Wp (b_undone [some (eSt t, .sh), some (eRw r, .sh), none, none, none, none, none, none, none, none, none]) _
  generalize eSt t = S1 at *
  unfold b_undone
  generalize F_frozen = A at pf ⊢
  rw [wp_sSeq]
  simp [eRw]
  refine later_i ?_
  rw [wp_sSeq]
  simp [e1, tmk_id ht.bs.cf.nd]
  refine later_i ?_
  rw [wp_sSeq, wp_sFor, wp_itV]
  simp [-wp_sSeq]
  refine wp_mono (for_inv (IUn (fun xs => some (S1, .sh) :: some (.tuple [.int (r.go : Int), .tuple (r.fr.map eFm), .tuple (r.ce.map eP), .int (r.to : Int), .int (r.ak : Int)], .sh) :: some (.int (r.go : Int), .sh) :: some (.tuple (r.fr.map eFm), .sh) :: some (.tuple (r.ce.map eP), .sh) :: some (.int (r.to : Int), .sh) :: some (.int (r.ak : Int), .sh) :: xs) (putT t.cl r.ce)) (Q := fun y => y.1 = .nx ∧ IUn (fun xs => some (S1, .sh) :: some (.tuple [.int (r.go : Int), .tuple (r.fr.map eFm), .tuple (r.ce.map eP), .int (r.to : Int), .int (r.ak : Int)], .sh) :: some (.int (r.go : Int), .sh) :: some (.tuple (r.fr.map eFm), .sh) :: some (.tuple (r.ce.map eP), .sh) :: some (.int (r.to : Int), .sh) :: some (.int (r.ak : Int), .sh) :: xs) (putT t.cl r.ce) [] y.2) ?_ (fun en h => ⟨rfl, h⟩) _ _ ⟨t.cl, r.ce, none, none, rfl, rfl, by omega, rfl⟩) ?_
  · rintro d rr en ⟨ks, rest, x8, x9, hds, hput, hl, rfl⟩
    cases rest with
    | nil => cases hds
    | cons q rest =>
      obtain ⟨rfl, rfl⟩ := List.cons.inj hds
      rw [List.length_cons] at hl
      have lt : (tD ks).length < 16777216 := by unfold tD; rw [List.length_map]; omega
      have h2 := tput_len ks q.1 q.2
      have fin : IUn (fun xs => some (S1, .sh) :: some (.tuple [.int (r.go : Int), .tuple (r.fr.map eFm), .tuple (r.ce.map eP), .int (r.to : Int), .int (r.ak : Int)], .sh) :: some (.int (r.go : Int), .sh) :: some (.tuple (r.fr.map eFm), .sh) :: some (.tuple (r.ce.map eP), .sh) :: some (.int (r.to : Int), .sh) :: some (.int (r.ak : Int), .sh) :: xs) (putT t.cl r.ce) (rest.map eP) (some (S1, .sh) :: some (.tuple [.int (r.go : Int), .tuple (r.fr.map eFm), .tuple (r.ce.map eP), .int (r.to : Int), .int (r.ak : Int)], .sh) :: some (.int (r.go : Int), .sh) :: some (.tuple (r.fr.map eFm), .sh) :: some (.tuple (r.ce.map eP), .sh) :: some (.int (r.to : Int), .sh) :: some (.int (r.ak : Int), .sh) :: [some (.dict (tD (tput ks q.1 q.2)), .own), some (kD q.1, .sh), some (.int q.2, .sh), none]) := ⟨tput ks q.1 q.2, rest, some (kD q.1, false), some (.int q.2, false), rfl, hput, by omega, rfl⟩
      have hk : Fx.keyOf (kD q.1) = some q.1 := by cases q.1 <;> rfl
      simp [eP]
      simp [lt, hk, dictPut_tD]
      exact fin
  · rintro ⟨o, en⟩ ⟨rfl, ks, rest, x8, x9, hds, hput, hl, rfl⟩
    cases rest with
    | cons q rest => cases hds
    | nil =>
      have hput : ks = putT t.cl r.ce := hput
      subst hput
      refine later_i ?_
      rw [wp_sSeq]
      simp [e0, hsub]
      refine later_i ?_
      rw [List.length_take] at hz
      have hz : t.fr.length - r.go + r.fr.length ≤ 16777216 := by omega
      simp [e2, pf, hz, List.map_take, tupDs_eP]
end Hd
namespace Hd
open PySem PySem.Spec L2 Fx
theorem tget_putT (g : Key → Int) : ∀ (js : List Key) (ks : List (Key × Int)) (k : Key), (k ∈ js → tget (putT ks (js.map fun k => (k, g k))) k = g k) ∧ (k ∉ js → tget (putT ks (js.map fun k => (k, g k))) k = tget ks k)
  | [], ks, k => ⟨fun h => (by cases h), fun _ => rfl⟩
  | j :: js, ks, k => by
    show (_ → tget (putT (tput ks j (g j)) (js.map fun k => (k, g k))) k = _) ∧ (_ → tget (putT (tput ks j (g j)) (js.map fun k => (k, g k))) k = _)
    have ih := tget_putT g js (tput ks j (g j)) k
    by_cases h : k ∈ js
    · exact ⟨fun _ => ih.1 h, fun z => absurd (List.mem_cons_of_mem _ h) z⟩
    · rw [ih.2 h]
      by_cases e : k = j
      · subst e
        exact ⟨fun _ => tget_tput_eq _ _ _, fun z => absurd (List.mem_cons_self ..) z⟩
      · refine ⟨fun z => ?_, fun _ => tget_tput_ne _ _ e⟩
        rcases List.mem_cons.mp z with z | z
        · exact absurd z e
        · exact absurd z h
theorem ksU_mem {s t : Stt} {k : Key} : k ∈ ksU s t ↔ k ∈ s.cl.map (·.1) ∨ k ∈ t.cl.map (·.1) := by
  unfold ksU
  rw [sk_mem, List.mem_append]
theorem ksU_iv {s t : Stt} (hs : GZ 20 s) (ht : GZ 20 t) {k : Key} (h : k ∈ ksU s t) : ∃ i : Int, k = .inl i := by
  rcases ksU_mem.mp h with h | h
  · obtain ⟨q, hq, rfl⟩ := List.mem_map.mp h
    exact hs.gs.cl q hq
  · obtain ⟨q, hq, rfl⟩ := List.mem_map.mp h
    exact ht.gs.cl q hq
theorem ksU_len {s t : Stt} (hs : GZ 20 s) (ht : GZ 20 t) : (ksU s t).length ≤ 40 := by
  have h1 := sk_len (s.cl.map (·.1) ++ t.cl.map (·.1))
  have := hs.gs.cn
  have := ht.gs.cn
  unfold ksU
  simp at h1
  omega
theorem rowT_ok {s t : Stt} (hs : GZ 20 s) (ht : GZ 20 t) : GR t (rowT s t) := by
  refine ⟨Nat.sub_le _ _, ?_, fun q hq => ?_, ?_⟩
  · show (s.fr.drop _).length ≤ 100
    rw [List.length_drop]
    have := hs.gs.fn
    omega
  · obtain ⟨k, hk, rfl⟩ := List.mem_map.mp hq
    exact ksU_iv hs ht (List.mem_filter.mp hk).1
  · show (List.map _ _).length ≤ 100
    rw [List.length_map]
    have h1 := List.length_filter_le (dif s t) (ksU s t)
    have h2 := ksU_len hs ht
    omega
theorem put_tget {s t : Stt} (k : Key) : tget (putT t.cl (rowT s t).ce) k = tget s.cl k := by
  show tget (putT t.cl (((ksU s t).filter (dif s t)).map fun k => (k, tget s.cl k))) k = _
  have hp := tget_putT (tget s.cl) ((ksU s t).filter (dif s t)) t.cl k
  by_cases h : k ∈ (ksU s t).filter (dif s t)
  · exact hp.1 h
  · rw [hp.2 h]
    by_cases hk : k ∈ ksU s t
    · have : ¬ dif s t k = true := fun z => h (List.mem_filter.mpr ⟨hk, z⟩)
      unfold dif at this
      simp at this
      exact this.symm
    · have h1 : k ∉ s.cl.map (·.1) := fun z => hk (ksU_mem.mpr (.inl z))
      have h2 : k ∉ t.cl.map (·.1) := fun z => hk (ksU_mem.mpr (.inr z))
      rw [tget_none h1, tget_none h2]
theorem undT_row {s t : Stt} (h : Pr s t) : undT t (rowT s t) = s := by
  have hs := h.gs
  have ht := h.gt
  have gr := rowT_ok hs ht
  have h1 : froz (putT t.cl (rowT s t).ce) = s.cl := by
    rw [froz_ext (js := s.cl) (putT_iv _ _ ht.gs.cl gr.ce) hs.gs.cl (putT_nd _ _ ht.bs.cf.nd) hs.bs.cf.nd put_tget]
    exact hs.bs.cf.fz
  obtain ⟨l, hl⟩ := h.to
  have l1 := cp_le1 s.fr t.fr
  have l2 := cp_le2 s.fr t.fr
  have h2 : t.fr.take (t.fr.length - (rowT s t).go) ++ (rowT s t).fr = s.fr := by
    show t.fr.take (t.fr.length - (t.fr.length - cp s.fr t.fr)) ++ s.fr.drop (cp s.fr t.fr) = s.fr
    rw [show t.fr.length - (t.fr.length - cp s.fr t.fr) = cp s.fr t.fr by omega, ← cp_take s.fr t.fr, List.take_append_drop]
  have h3 : t.to.take (rowT s t).to = s.to := by
    show t.to.take s.to.length = s.to
    rw [hl, List.take_left]
  unfold undT
  rw [h1, h2, h3]
  rfl
/-! ### which rows are right -/
theorem sh_st {s : Stt} (h1 : ∀ f ∈ s.fr, Sh 3 (eFm f)) (h2 : ∀ q ∈ s.cl, ∃ i : Int, q.1 = .inl i) : Sh 5 (eSt s) := Sh.tup fun d hd => by
  simp only [List.mem_cons, List.not_mem_nil, or_false] at hd
  rcases hd with rfl | rfl | rfl | rfl
  · refine Sh.tup (k := 3) fun d hd => ?_
    obtain ⟨f, hf, rfl⟩ := List.mem_map.mp hd
    exact h1 f hf
  · refine Sh.mono (Sh.tup (k := 1) fun d hd => ?_) (by omega)
    obtain ⟨q, hq, rfl⟩ := List.mem_map.mp hd
    obtain ⟨i, e⟩ := h2 q hq
    exact sh_eP (by rw [e]; exact Sh.int i)
  · refine Sh.mono (Sh.tup (k := 0) fun d hd => ?_) (by omega)
    obtain ⟨i, _, rfl⟩ := List.mem_map.mp hd
    exact Sh.int i
  · exact Sh.mono (Sh.int _) (by omega)
theorem GZ.sh {n : Nat} {s : Stt} (h : GZ n s) : Sh 5 (eSt s) := sh_st h.gs.frsh h.gs.cl
theorem isrow_ok {s t : Stt} (hs : GZ 20 s) (ht : GZ 20 t) {r : Rw} (hr : GR t r) (hf : ∀ f ∈ r.fr, Sh 3 (eFm f)) : ∃ b : Bool, F_is_row_for [eSt s, eSt t, eRw r] = some (.bool b, false) ∧ (b = true ↔ undT t r = s) := by
  have e1 := undone_ok (by omega) ht hr
  have s1 : Sh 5 (eSt (undT t r)) := sh_st (fun f hf' => by
    rcases List.mem_append.mp hf' with h | h
    · exact ht.gs.frsh f (List.mem_of_mem_take h)
    · exact hf f h) (froz_all (P := fun k => ∃ i : Int, k = .inl i) (putT_iv _ _ ht.gs.cl hr.ce))
  have e2 := dEq_of s1 hs.sh (by omega) (by omega)
  refine ⟨PyData.eqv (eSt (undT t r)) (eSt s), ?_, ?_⟩
  · unfold F_is_row_for b_is_row_for
    generalize F_undone = A at e1 ⊢
    generalize eSt (undT t r) = S1 at *
    generalize eSt s = S2 at *
    generalize eSt t = S3 at *
    generalize eRw r = S4 at *
    simp [e1, e2]
  · rw [eqv_pl (pl_st _) (pl_st _) s1 hs.sh]
    exact ⟨eSt_inj, fun e => by rw [e]⟩
theorem rowT_fr {s t : Stt} (hs : GZ 20 s) : ∀ f ∈ (rowT s t).fr, Sh 3 (eFm f) := fun f hf => hs.gs.frsh f (List.mem_of_mem_drop hf)
def main0 : Fm := ⟨S "main", 0, [], none⟩
theorem main0_sh : Sh 3 (eFm main0) := Sh.tup fun d hd => by
  simp only [List.mem_cons, List.not_mem_nil, or_false] at hd
  rcases hd with rfl | rfl | rfl | rfl
  · exact Sh.mono (Sh.str _ (ofS_ok _)) (by omega)
  · exact Sh.mono (Sh.int _) (by omega)
  · exact sh_tnil
  · exact Sh.mono Sh.none (by omega)
def bent1 (r : Rw) : Rw := ⟨r.go, r.fr, r.ce ++ [(.inl 77, 5)], r.to, r.ak⟩
def bent2 (r : Rw) : Rw := ⟨r.go, r.fr, r.ce, r.to, r.ak + 1⟩
def bent3 (r : Rw) : Rw := ⟨r.go, r.fr ++ [main0], r.ce, r.to, r.ak⟩
theorem bents {s t : Stt} (h : Pr s t) : F_is_row_for [eSt s, eSt t, eRw (bent1 (rowT s t))] = some (.bool false, false) ∧ F_is_row_for [eSt s, eSt t, eRw (bent2 (rowT s t))] = some (.bool false, false) ∧ F_is_row_for [eSt s, eSt t, eRw (bent3 (rowT s t))] = some (.bool false, false) := by
  have hs := h.gs
  have ht := h.gt
  have g := rowT_ok hs ht
  have hf := rowT_fr (t := t) hs
  have eu := undT_row h
  have hce : (rowT s t).ce.length ≤ 40 := by
    show (List.map _ _).length ≤ 40
    rw [List.length_map]
    have h1 := List.length_filter_le (dif s t) (ksU s t)
    have h2 := ksU_len hs ht
    omega
  have hfr : (rowT s t).fr.length ≤ 21 := by
    show (s.fr.drop _).length ≤ 21
    rw [List.length_drop]
    have := hs.gs.fn
    omega
  have c1 := isrow_ok hs ht (r := bent1 (rowT s t)) ⟨g.go, g.fr, fun q hq => by
    rcases List.mem_append.mp hq with hq | hq
    · exact g.ce q hq
    · rw [List.mem_singleton.mp hq]; exact ⟨_, rfl⟩, by show (_ ++ [_]).length ≤ 100; simp; omega⟩ hf
  have c2 := isrow_ok hs ht (r := bent2 (rowT s t)) ⟨g.go, g.fr, g.ce, g.cn⟩ hf
  have c3 := isrow_ok hs ht (r := bent3 (rowT s t)) ⟨g.go, by show (_ ++ [_]).length ≤ 100; simp; omega, g.ce, g.cn⟩ (fun f hf' => by
    rcases List.mem_append.mp hf' with hf' | hf'
    · exact hf f hf'
    · rw [List.mem_singleton.mp hf']; exact main0_sh)
  have no : ∀ {r : Rw}, (∃ b : Bool, F_is_row_for [eSt s, eSt t, eRw r] = some (.bool b, false) ∧ (b = true ↔ undT t r = s)) → undT t r ≠ s → F_is_row_for [eSt s, eSt t, eRw r] = some (.bool false, false) := by
    rintro r ⟨b, e, hb⟩ hne
    cases b with
    | false => exact e
    | true => exact absurd (hb.mp rfl) hne
  refine ⟨no c1 fun e => ?_, no c2 fun e => ?_, no c3 fun e => ?_⟩
  · have := congrArg (fun s => tget s.cl (.inl 77)) e
    have e2 : tget (undT t (bent1 (rowT s t))).cl (.inl 77) = 5 := by
      show tget (froz (putT t.cl ((rowT s t).ce ++ [(.inl 77, 5)]))) (.inl 77) = 5
      rw [tget_froz]
      unfold putT
      rw [List.foldl_append]
      exact tget_tput_eq _ _ _
    exact hs.bs.c7 (by rw [← e2, e])
  · have := congrArg Stt.ak e
    have e2 : (undT t (bent2 (rowT s t))).ak = s.ak + 1 := rfl
    omega
  · have e2 : (undT t (bent3 (rowT s t))).fr = (undT t (rowT s t)).fr ++ [main0] := by
      show _ ++ (_ ++ _) = (_ ++ _) ++ _
      rw [List.append_assoc]
      rfl
    rw [e, eu] at e2
    have := congrArg List.length e2
    simp at this
end Hd
namespace Hd
open PySem PySem.Spec L2 Fx
theorem sh_frs {fr : List Fm} (h : ∀ f ∈ fr, Sh 3 (eFm f)) : Sh 4 (.tuple (fr.map eFm)) := Sh.tup fun d hd => by
  obtain ⟨f, hf, rfl⟩ := List.mem_map.mp hd
  exact h f hf
theorem eq_frs {a b : List Fm} (h1 : ∀ f ∈ a, Sh 3 (eFm f)) (h2 : ∀ f ∈ b, Sh 3 (eFm f)) : ∃ c : Bool, dEq (.tuple (a.map eFm)) (.tuple (b.map eFm)) = some (.bool c, false) ∧ (c = true ↔ a = b) := by
  refine ⟨_, dEq_of (sh_frs h1) (sh_frs h2) (by omega) (by omega), ?_⟩
  rw [eqv_pl (pl_map pl_fm a) (pl_map pl_fm b) (sh_frs h1) (sh_frs h2)]
  exact ⟨fun e => map_inj eFm_inj _ _ (PyData.tuple.inj e), fun e => by rw [e]⟩
theorem fr_tk (s : Stt) (i : Nat) : dSl (.tuple (s.fr.map eFm)) none (some ((i : Int) + 1)) = some (.tuple ((s.fr.take (i + 1)).map eFm), false) := by
  rw [dSl_tk1, List.map_take]
theorem lrow_loop {s t : Stt} (hs : GZ 20 s) (ht : GZ 20 t) (xs : En) : Wp (whileL (tAndF (tB1 (f2 (fSlot 2) (toO (fN (aCons (toO (fN (aCons (toO (f2 (fSlot 0) (svO (fC (.int 0))) dIxA)) (aNil)) dLen)) (aCons (toO (fN (aCons (toO (f2 (fSlot 1) (svO (fC (.int 0))) dIxA)) (aNil)) dLen)) (aNil))) dMin2)) (isI iLt))) (tB1 (f2 (toO (fSl (toO (f2 (fSlot 0) (svO (fC (.int 0))) dIxA)) (pNone) (pInt (toO (f2 (fSlot 2) (svO (fC (.int 1))) (dAdd)))) dSl)) (toO (fSl (toO (f2 (fSlot 1) (svO (fC (.int 0))) dIxA)) (pNone) (pInt (toO (f2 (fSlot 2) (svO (fC (.int 1))) (dAdd)))) dSl)) (dEq)))) (sAugN 2 (fC (.int 1)) zAdd) fuelN (some (eSt s, .sh) :: some (eSt t, .sh) :: some (.int 0, .sh) :: xs)) fun y => y = (.nx, some (eSt s, .sh) :: some (eSt t, .sh) :: some (.int (cp s.fr t.fr : Int), .sh) :: xs) := by
  have e1 := eSt_0 s
  have e2 := eSt_0 t
  have l1 := cp_le1 s.fr t.fr
  have l2 := cp_le2 s.fr t.fr
  have l3 := fr_len hs
  refine while_run (IUr s t xs) ?_ (cp s.fr t.fr) _ _ ⟨0, by omega, rfl⟩ (by unfold fuelN; omega)
  rintro m en ⟨i, hi, rfl⟩
  have mn : (if t.fr.length < s.fr.length then (t.fr.length : Int) else (s.fr.length : Int)) = ((min s.fr.length t.fr.length : Nat) : Int) := by
    split <;> omega
  obtain ⟨c, hc, hiff⟩ := eq_frs (a := s.fr.take (i + 1)) (b := t.fr.take (i + 1)) (fun f hf => hs.gs.frsh f (List.mem_of_mem_take hf)) (fun f hf => ht.gs.frsh f (List.mem_of_mem_take hf))
  have k1 := fr_tk s i
  have k2 := fr_tk t i
  cases m with
  | zero =>
    left
    have hi : i = cp s.fr t.fr := by omega
    subst hi
    refine ⟨?_, rfl⟩
    by_cases hc2 : cp s.fr t.fr < min s.fr.length t.fr.length
    · have h1 : s.fr[cp s.fr t.fr]? = some s.fr[cp s.fr t.fr] := List.getElem?_eq_getElem (by omega)
      have h2 : t.fr[cp s.fr t.fr]? = some t.fr[cp s.fr t.fr] := List.getElem?_eq_getElem (by omega)
      have hne := cp_end s.fr t.fr _ _ h1 h2
      have hcf : c = false := by
        rw [Bool.eq_false_iff]
        intro z
        have z := hiff.mp z
        have : (s.fr.take (cp s.fr t.fr + 1))[cp s.fr t.fr]? = (t.fr.take (cp s.fr t.fr + 1))[cp s.fr t.fr]? := by rw [z]
        rw [List.getElem?_take_of_lt (by omega), List.getElem?_take_of_lt (by omega), h1, h2] at this
        exact hne (Option.some.inj this)
      subst hcf
      clear hiff hne h1 h2
      have hc3 : (cp s.fr t.fr : Int) < ((min s.fr.length t.fr.length : Nat) : Int) := by omega
      clear hc2
      generalize min s.fr.length t.fr.length = mm at mn hc3
      generalize cp s.fr t.fr = C at *
      generalize eSt s = S1 at *
      generalize eSt t = S2 at *
      generalize (s.fr.take (C + 1)).map eFm = L1 at *
      generalize (t.fr.take (C + 1)).map eFm = L2 at *
      generalize hq1 : s.fr.map eFm = Q1 at *
      generalize hq2 : t.fr.map eFm = Q2 at *
      have hw1 : Q1.length = s.fr.length := by rw [← hq1, List.length_map]
      have hw2 : Q2.length = t.fr.length := by rw [← hq2, List.length_map]
      simp [e1, e2, hw1, hw2, mn, hc3, k1, k2, hc, -dSl_tk1]
    · have hc3 : ¬ (cp s.fr t.fr : Int) < ((min s.fr.length t.fr.length : Nat) : Int) := by omega
      generalize min s.fr.length t.fr.length = mm at mn hc3
      generalize cp s.fr t.fr = C at *
      generalize eSt s = S1 at *
      generalize eSt t = S2 at *
      simp [e1, e2, mn, hc3]
  | succ m =>
    right
    have hcf : c = true := hiff.mpr (by
      have : (s.fr.take (cp s.fr t.fr)).take (i + 1) = (t.fr.take (cp s.fr t.fr)).take (i + 1) := by rw [cp_take]
      rw [List.take_take, List.take_take, Nat.min_eq_left (by omega)] at this
      exact this)
    subst hcf
    have hc3 : (i : Int) < ((min s.fr.length t.fr.length : Nat) : Int) := by omega
    generalize min s.fr.length t.fr.length = mm at mn hc3
    have hI : IUr s t xs m (some (eSt s, .sh) :: some (eSt t, .sh) :: some (.int ((i : Int) + 1), .sh) :: xs) := ⟨i + 1, by omega, rfl⟩
    generalize eSt s = S1 at *
    generalize eSt t = S2 at *
    generalize (s.fr.take (i + 1)).map eFm = L1 at *
    generalize (t.fr.take (i + 1)).map eFm = L2 at *
    generalize hq1 : s.fr.map eFm = Q1 at *
    generalize hq2 : t.fr.map eFm = Q2 at *
    have hw1 : Q1.length = s.fr.length := by rw [← hq1, List.length_map]
    have hw2 : Q2.length = t.fr.length := by rw [← hq2, List.length_map]
    refine ⟨by simp [e1, e2, hw1, hw2, mn, hc3, k1, k2, hc, -dSl_tk1], m, rfl, ?_⟩
    simp
    exact hI
def ILr (s t : Stt) (S1 S2 : D) (C : Nat) (ds : List D) (en : En) : Prop := ∃ (don rest : List Key) (x6 : Option (D × Bool)), ds = rest.map kD ∧ don ++ rest = ksU s t ∧ en = [some (S1, .sh), some (S2, .sh), some (.int (C : Int), .sh), some (.dict (tD s.cl), .own), some (.dict (tD t.cl), .own), some (.list ((don.filter (dif s t)).map fun k => eP (k, tget s.cl k)), .own), jk x6]
theorem law_row_ok {s t : Stt} (hs : GZ 20 s) (ht : GZ 20 t) : F__law_row [eSt s, eSt t] = some (eRw (rowT s t), false) := by
  have loop := fun xs => lrow_loop hs ht xs
  have e0 := eSt_0 s
  have e0t := eSt_0 t
  have e1 := eSt_1 s
  have e1t := eSt_1 t
  have e2 := eSt_2 s
  have e3 := eSt_3 s
  have k1 := list_tD s.cl
  have k2 := list_tD t.cl
  have fl := fr_sl s (cp s.fr t.fr)
  have l1 := cp_le1 s.fr t.fr
  have l2 := cp_le2 s.fr t.fr
  have ss := sortSet_k (oneU hs ht) (by
    have := hs.gs.cn
    have := ht.gs.cn
    simp; omega)
  have hsub : ((t.fr.length : Int) - (cp s.fr t.fr : Int)) = ((t.fr.length - cp s.fr t.fr : Nat) : Int) := by omega
  refine wp_val ?_
  show Wp (mk0 7 b__law_row _) _
  rw [mk0_e, wp_bind]
  show Wp (b__law_row [some (eSt s, .sh), some (eSt t, .sh), none, none, none, none, none]) _
  have hrow : eRw (rowT s t) = .tuple [.int ((t.fr.length - cp s.fr t.fr : Nat) : Int), .tuple ((s.fr.drop (cp s.fr t.fr)).map eFm), .tuple (((ksU s t).filter (dif s t)).map fun k => eP (k, tget s.cl k)), .int (s.to.length : Int), .int (s.ak : Int)] := by
    unfold eRw rowT
    rw [List.map_map]
    rfl
  have hkl := ksU_len hs ht
  have hz : s.cl.length + t.cl.length ≤ 16777216 := by
    have := hs.gs.cn
    have := ht.gs.cn
    omega
  rw [hrow]
  generalize cp s.fr t.fr = C at *
  generalize eSt s = S1 at *
  generalize eSt t = S2 at *
  unfold b__law_row
  rw [wp_sSeq]
  simp
  refine later_i ?_
  rw [wp_sSeq]
  refine wp_mono (loop _) ?_
  rintro ⟨o, en⟩ he
  cases he
  refine later_i ?_
  rw [wp_sSeq]
  simp [e1, e1t, tmk_id hs.bs.cf.nd, tmk_id ht.bs.cf.nd]
  refine later_i ?_
  rw [List.map_append] at ss
  rw [wp_sSeq, wp_sFor, wp_itV]
  simp [k1, k2, -List.map_map, hz, ss, -wp_sSeq]
  refine wp_mono (for_inv (ILr s t S1 S2 C) (Q := fun y => y.1 = .nx ∧ ILr s t S1 S2 C [] y.2) ?_ (fun en h => ⟨rfl, h⟩) _ _ ⟨[], ksU s t, none, rfl, rfl, rfl⟩) ?_
  · rintro d rr en ⟨don, rest, x6, hds, hd, rfl⟩
    cases rest with
    | nil => cases hds
    | cons k rest =>
      obtain ⟨rfl, rfl⟩ := List.cons.inj hds
      have hlen : (don.filter (dif s t)).length < 16777216 := by
        have h1 := List.length_filter_le (dif s t) don
        have h2 := congrArg List.length hd
        simp at h2
        omega
      have g1 := dGetM_tD s.cl (x := kD k) (k := k) (by cases k <;> rfl)
      have g2 := dGetM_tD t.cl (x := kD k) (k := k) (by cases k <;> rfl)
      have nx : ∀ x, x = ((don ++ [k]).filter (dif s t)).map (fun k => eP (k, tget s.cl k)) → ILr s t S1 S2 C (rest.map kD) [some (S1, .sh), some (S2, .sh), some (.int (C : Int), .sh), some (.dict (tD s.cl), .own), some (.dict (tD t.cl), .own), some (.list x, .own), some (kD k, .sh)] := fun x hx => ⟨don ++ [k], rest, some (kD k, false), rfl, by rw [List.append_assoc]; exact hd, by rw [hx]; rfl⟩
      rw [List.filter_append, List.map_append] at nx
      have hdf : dif s t k = !decide (tget s.cl k = tget t.cl k) := rfl
      by_cases hk : tget s.cl k = tget t.cl k
      · simp [hk] at hdf
        simp [g1, g2, dNe_int, hk]
        exact nx _ (by simp [hdf])
      · simp [hk] at hdf
        simp [g1, g2, dNe_int, hk, hlen]
        exact nx _ (by simp [hdf, eP])
  · rintro ⟨o, en⟩ ⟨rfl, don, rest, x6, hds, hd, rfl⟩
    cases rest with
    | cons k rest => cases hds
    | nil =>
      rw [List.append_nil] at hd
      subst hd
      refine later_i ?_
      simp [e0, e0t, hsub, fl, e2, e3]
end Hd
namespace Hd
open PySem PySem.Spec L2 Fx
theorem dSum_i (is : List Int) : dSum [.list (is.map .int)] = some (.int is.sum, false) := by
  show (intsD (is.map .int)).map _ = _
  rw [intsD_map]
  rfl
def szF (fr : List Fm) : Int := (fr.map fun f => 2 + 2 * (f.vs.length : Int)).sum
def szS (s : Stt) : Int := szF s.fr + 2 * (s.cl.length : Int) + (s.to.length : Int) + 1
def szR (r : Rw) : Int := 3 + szF r.fr + 2 * (r.ce.length : Int)
theorem dSum_fr (fr : List Fm) : dSum [.list (fr.map fun f => .int (2 + 2 * (f.vs.length : Int)))] = some (.int (szF fr), false) := by
  have := dSum_i (fr.map fun f => 2 + 2 * (f.vs.length : Int))
  rw [List.map_map] at this
  exact this
theorem eFm_2 (f : Fm) : dIxA (eFm f) (.int 2) = some (.tuple (f.vs.map eP), false) := by simp [eFm]
theorem lcF {fr : List Fm} (hl : fr.length ≤ 1000) {S1 : D} {i : Int} (he : dIxA S1 (.int i) = some (.tuple (fr.map eFm), false)) (x1 x2 : Option (D × Fl)) : fLc [2] (itV (toV (f2 (fSlot 0) (svO (fC (.int i))) dIxA))) (gN 2) (tTrue) (toV (f2 (svO (fC (.int 2))) (toO (f2 (svO (fC (.int 2))) (toO (fN (aCons (toO (f2 (fSlot 2) (svO (fC (.int 2))) dIxA)) (aNil)) dLen)) (isI iMul))) (dAdd))) [some (S1, .sh), x1, x2] = some (.list (fr.map fun f => .int (2 + 2 * (f.vs.length : Int))), true, [some (S1, .sh), x1, x2]) := by
  refine (fLc_typ eFm fr (fun _ => true) (fun f => .int (2 + 2 * (f.vs.length : Int))) (en1 := [some (S1, .sh), x1, x2]) ?_ rfl rfl (by rw [sl_ok]; omega) (fun f hf => ?_)).trans (by rw [filt_true]; rfl)
  · rw [e_itV]
    simp [he]
  · refine ⟨[some (S1, .sh), x1, some (eFm f, .sh)], ?_, ?_, fun _ => ?_, rfl⟩
    · simp [wipeE]
    · simp
    · have := eFm_2 f
      generalize eFm f = F1 at *
      simp [this]
theorem lcF1 {fr : List Fm} (hl : fr.length ≤ 1000) {S1 : D} {i : Int} (he : dIxA S1 (.int i) = some (.tuple (fr.map eFm), false)) (x1 : Option (D × Fl)) : fLc [1] (itV (toV (f2 (fSlot 0) (svO (fC (.int i))) dIxA))) (gN 1) (tTrue) (toV (f2 (svO (fC (.int 2))) (toO (f2 (svO (fC (.int 2))) (toO (fN (aCons (toO (f2 (fSlot 1) (svO (fC (.int 2))) dIxA)) (aNil)) dLen)) (isI iMul))) (dAdd))) [some (S1, .sh), x1] = some (.list (fr.map fun f => .int (2 + 2 * (f.vs.length : Int))), true, [some (S1, .sh), x1]) := by
  refine (fLc_typ eFm fr (fun _ => true) (fun f => .int (2 + 2 * (f.vs.length : Int))) (en1 := [some (S1, .sh), x1]) ?_ rfl rfl (by rw [sl_ok]; omega) (fun f hf => ?_)).trans (by rw [filt_true]; rfl)
  · rw [e_itV]
    simp [he]
  · refine ⟨[some (S1, .sh), some (eFm f, .sh)], ?_, ?_, fun _ => ?_, rfl⟩
    · simp [wipeE]
    · simp
    · have := eFm_2 f
      generalize eFm f = F1 at *
      simp [this]
theorem size_ok {n : Nat} (hn : n ≤ 500) {s : Stt} (h : GZ n s) : F_size_of_state [eSt s] = some (.int (szS s), false) := by
  have e0 := eSt_0 s
  have e1 := eSt_1 s
  have e2 := eSt_2 s
  have hf := h.gs.fn
  have hlc := fun x1 x2 => lcF (fr := s.fr) (by omega) e0 x1 x2
  have hd := dSum_fr s.fr
  have hsz : szS s = szF s.fr + 2 * (s.cl.length : Int) + (s.to.length : Int) + 1 := rfl
  rw [hsz]
  refine wp_val ?_
  show Wp (mk0 3 b_size_of_state _) _
  rw [mk0_e, wp_bind]
  show Wp (b_size_of_state [some (eSt s, .sh), none, none]) _
  generalize eSt s = S1 at *
  unfold b_size_of_state
  rw [wp_sSeq]
  simp [hlc, hd]
  refine later_i ?_
  simp [e1, e2]
theorem lsize_ok {n : Nat} (hn : n ≤ 500) {s : Stt} (h : GZ n s) : F__law_size [eSt s] = some (.int (szS s), false) := by
  have e0 := eSt_0 s
  have e1 := eSt_1 s
  have e2 := eSt_2 s
  have hf := h.gs.fn
  have hlc := fun x1 => lcF1 (fr := s.fr) (by omega) e0 x1
  have hd := dSum_fr s.fr
  have hsz : szS s = szF s.fr + 2 * (s.cl.length : Int) + (s.to.length : Int) + 1 := rfl
  rw [hsz]
  refine wp_val ?_
  show Wp (mk0 2 b__law_size _) _
  rw [mk0_e, wp_bind]
  show Wp (b__law_size [some (eSt s, .sh), none]) _
  generalize eSt s = S1 at *
  unfold b__law_size
  simp [hlc, hd, e1, e2]
theorem eRw_1 (r : Rw) : dIxA (eRw r) (.int 1) = some (.tuple (r.fr.map eFm), false) := by simp [eRw]
theorem eRw_2 (r : Rw) : dIxA (eRw r) (.int 2) = some (.tuple (r.ce.map eP), false) := by simp [eRw]
theorem rsize_ok {r : Rw} (h : r.fr.length ≤ 1000) : F_size_of_row [eRw r] = some (.int (szR r), false) := by
  have e1 := eRw_1 r
  have e2 := eRw_2 r
  have hlc := fun x1 => lcF1 (fr := r.fr) (by omega) e1 x1
  have hd := dSum_fr r.fr
  have hsz : szR r = 3 + szF r.fr + 2 * (r.ce.length : Int) := rfl
  rw [hsz]
  refine wp_val ?_
  show Wp (mk0 2 b_size_of_row _) _
  rw [mk0_e, wp_bind]
  show Wp (b_size_of_row [some (eRw r, .sh), none]) _
  generalize eRw r = S1 at *
  unfold b_size_of_row
  simp [hlc, hd, e2]
theorem lrsize_ok {r : Rw} (h : r.fr.length ≤ 1000) : F__law_row_size [eRw r] = some (.int (szR r), false) := by
  have := rsize_ok h
  exact this
end Hd
namespace Hd
open PySem PySem.Spec L2 Fx
@[simp] theorem dRevA_t (ds : List D) : dRevA (.tuple ds) = some (.tuple ds.reverse, false) := id rfl
theorem e_itZB (l : Lv) (x : Option (D × Fl)) (en : En) : itZB l (x :: en) = (l (x :: en)).bind fun x => match x.1 with
  | [d, e] => (lstD d).bind fun ds => (lstD e).bind fun es => some (zipD ds es, x.2)
  | _ => none := id rfl
/-! ### the rows of a run -/
def st (run : List Stt) (k : Nat) : Stt := (run[k]?).getD first0
theorem st_at {run : List Stt} {k : Nat} (h : k < run.length) : run[k]? = some (st run k) := by
  unfold st
  rw [List.getElem?_eq_getElem h]
  rfl
noncomputable def rw' (run : List Stt) (k : Nat) : Rw := rowT (st run k) (st run (k + 1))
noncomputable def rowsT (run : List Stt) : List Rw := (List.range (run.length - 1)).map (rw' run)
theorem rowsT_len (run : List Stt) : (rowsT run).length = run.length - 1 := by simp [rowsT]
theorem zip_run (run : List Stt) : run.zip (run.drop 1) = (List.range (run.length - 1)).map fun k => (st run k, st run (k + 1)) := by
  apply List.ext_getElem?
  intro k
  rw [List.getElem?_map]
  by_cases h : k < run.length - 1
  · rw [List.getElem?_range h]
    have h1 := st_at (run := run) (k := k) (by omega)
    have h2 := st_at (run := run) (k := k + 1) (by omega)
    rw [(List.getElem?_zip_eq_some (z := (st run k, st run (k + 1)))).mpr ⟨h1, by rw [List.getElem?_drop, Nat.add_comm]; exact h2⟩]
    rfl
  · rw [List.getElem?_eq_none (by simp; omega), List.getElem?_eq_none (by simp; omega)]
    rfl
theorem Rn.pr {run : List Stt} (h : Rn run) {k : Nat} (hk : k < run.length - 1) : Pr (st run k) (st run (k + 1)) := h.nx k _ _ (st_at (by omega)) (st_at (by omega))
theorem Rn.gz {run : List Stt} (h : Rn run) {k : Nat} (hk : k < run.length) : GZ 20 (st run k) := h.all _ (List.mem_of_getElem? (st_at hk))
theorem rw_fr {run : List Stt} (h : Rn run) {k : Nat} (hk : k < run.length - 1) : (rw' run k).fr.length ≤ 100 := (rowT_ok (h.pr hk).gs (h.pr hk).gt).fr
theorem undo_rows_ok {run : List Stt} (h : Rn run) (hl : run.length ≤ 100) : F_undo_rows [.tuple (run.map eSt)] = some (.tuple ((rowsT run).map eRw), false) := by
  have hu : ∀ k, k < run.length - 1 → F_undo_row [eSt (st run k), eSt (st run (k + 1))] = some (eRw (rw' run k), false) := fun k hk => undo_row_ok (h.pr hk).gs (h.pr hk).gt
  have hr : (rowsT run).map eRw = (List.range (run.length - 1)).map fun k => eRw (rw' run k) := by
    unfold rowsT
    rw [List.map_map]
    rfl
  have hz : zipD (run.map eSt) ((run.map eSt).drop 1) = (List.range (run.length - 1)).map fun k => .tuple [eSt (st run k), eSt (st run (k + 1))] := by
    unfold zipD
    rw [← List.map_drop, List.zip_map, zip_run, List.map_map, List.map_map]
    rfl
  rw [hr]
  refine wp_val ?_
  show Wp (mk0 3 b_undo_rows _) _
  rw [mk0_e, wp_bind]
  show Wp (b_undo_rows [some (.tuple (run.map eSt), .sh), none, none]) _
  unfold b_undo_rows
  generalize F_undo_row = A at hu ⊢
  generalize run.map eSt = R at *
  have hlc : fLc [1, 2] (itZB (lCons (fName 0) (lCons (toV (fSl (fSlot 0) (pInt (svO (fC (.int 1)))) (pNone) dSl)) (lNil)))) (gT 2 (gsCons (gN 1) (gsCons (gN 2) (gsNil)))) (tTrue) (toV (fCall 2 (lCons (fName 1) (lCons (fName 2) (lNil))) A)) [some (.tuple R, .sh), none, none] = some (.list ((List.range (run.length - 1)).map fun k => eRw (rw' run k)), true, [some (.tuple R, .sh), none, none]) := by
    refine (fLc_typ (fun k => .tuple [eSt (st run k), eSt (st run (k + 1))]) (List.range (run.length - 1)) (fun _ => true) (fun k => eRw (rw' run k)) (en1 := [some (.tuple R, .sh), none, none]) ?_ rfl rfl (by rw [sl_ok]; simp; omega) (fun k hk => ?_)).trans (by rw [filt_true]; rfl)
    · rw [e_itZB]
      simp [lstD]
      rw [List.drop_one] at hz
      exact hz
    · have hk := hu k (List.mem_range.mp hk)
      generalize eSt (st run k) = S1 at *
      generalize eSt (st run (k + 1)) = S2 at *
      refine ⟨[some (.tuple R, .sh), some (S1, .sh), some (S2, .sh)], ?_, ?_, fun _ => ?_, rfl⟩
      · simp [wipeE]
      · simp
      · simp [hk]
  simp [hlc]
theorem last_ex {run : List Stt} (h : 0 < run.length) : ∃ r0 s, run = r0 ++ [s] := by
  rcases List.eq_nil_or_concat run with rfl | ⟨r0, s, rfl⟩
  · simp at h
  · exact ⟨r0, s, List.concat_eq_append⟩
theorem st_last (r0 : List Stt) (s : Stt) : st (r0 ++ [s]) ((r0 ++ [s]).length - 1) = s := by
  unfold st
  simp
theorem neg1 {run : List Stt} (h : 0 < run.length) : dIxA (.tuple (run.map eSt)) (.int (-1)) = some (eSt (st run (run.length - 1)), false) := by
  obtain ⟨r0, s, rfl⟩ := last_ex h
  rw [st_last]
  simp
def szW (run : List Stt) : Int := (run.map szS).sum
noncomputable def szL (run : List Stt) : Int := szS (st run (run.length - 1)) + ((rowsT run).map szR).sum
theorem sizes_ok {run : List Stt} (h : Rn run) (hl : run.length ≤ 100) (h0 : 0 < run.length) : F_sizes [.tuple (run.map eSt)] = some (.tuple [.int (szW run), .int (szL run)], false) := by
  have e1 := undo_rows_ok h hl
  have e2 : ∀ s ∈ run, F_size_of_state [eSt s] = some (.int (szS s), false) := fun s hs => size_ok (by omega) (h.all s hs)
  have e3 : ∀ r ∈ rowsT run, F_size_of_row [eRw r] = some (.int (szR r), false) := fun r hr => by
    obtain ⟨k, hk, rfl⟩ := List.mem_map.mp hr
    exact rsize_ok (Nat.le_trans (rw_fr h (List.mem_range.mp hk)) (by omega))
  have e4 := neg1 h0
  have e5 := e2 _ (List.mem_of_getElem? (st_at (run := run) (k := run.length - 1) (by omega)))
  have s1 := dSum_i (run.map szS)
  have s2 := dSum_i ((rowsT run).map szR)
  have hl2 := rowsT_len run
  have w1 : (run.map szS).sum = szW run := rfl
  have w2 : szL run = szS (st run (run.length - 1)) + ((rowsT run).map szR).sum := rfl
  rw [w1] at s1
  rw [w2]
  refine wp_val ?_
  show Wp (mk0 5 b_sizes _) _
  rw [mk0_e, wp_bind]
  show Wp (b_sizes [some (.tuple (run.map eSt), .sh), none, none, none, none]) _
  unfold b_sizes
  generalize F_undo_rows = A1 at e1 ⊢
  generalize F_size_of_state = A2 at e2 e5 ⊢
  generalize F_size_of_row = A3 at e3 ⊢
  have lc1 : ∀ (x1 x3 x4 : Option (D × Fl)), fLc [2] (itV (fName 0)) (gN 2) (tTrue) (toV (fCall 1 (lCons (fName 2) (lNil)) A2)) [some (.tuple (run.map eSt), .sh), x1, none, x3, x4] = some (.list ((run.map szS).map .int), true, [some (.tuple (run.map eSt), .sh), x1, none, x3, x4]) := fun x1 x3 x4 => by
    refine (fLc_typ eSt run (fun _ => true) (fun s => .int (szS s)) (en1 := [some (.tuple (run.map eSt), .sh), x1, none, x3, x4]) ?_ rfl rfl (by rw [sl_ok]; omega) (fun s hs => ?_)).trans (by rw [filt_true, List.map_map]; rfl)
    · rw [e_itV]
      simp
    · have hq := e2 s hs
      generalize eSt s = S1 at *
      refine ⟨[some (.tuple (run.map eSt), .sh), x1, some (S1, .sh), x3, x4], ?_, ?_, fun _ => ?_, rfl⟩
      · simp [wipeE]
      · simp
      · simp [hq]
  have lc2 : ∀ (x1 x2 x3 : Option (D × Fl)), fLc [4] (itV (toV (fCall 1 (lCons (fName 0) (lNil)) A1))) (gN 4) (tTrue) (toV (fCall 1 (lCons (fName 4) (lNil)) A3)) [some (.tuple (run.map eSt), .sh), x1, x2, x3, none] = some (.list (((rowsT run).map szR).map .int), true, [some (.tuple (run.map eSt), .sh), x1, x2, x3, none]) := fun x1 x2 x3 => by
    refine (fLc_typ eRw (rowsT run) (fun _ => true) (fun s => .int (szR s)) (en1 := [some (.tuple (run.map eSt), .sh), x1, x2, x3, none]) ?_ rfl rfl (by rw [sl_ok]; omega) (fun s hs => ?_)).trans (by rw [filt_true, List.map_map]; rfl)
    · rw [e_itV]
      simp [e1]
    · have hq := e3 s hs
      generalize eRw s = S1 at *
      refine ⟨[some (.tuple (run.map eSt), .sh), x1, x2, x3, some (S1, .sh)], ?_, ?_, fun _ => ?_, rfl⟩
      · simp [wipeE]
      · simp
      · simp [hq]
  generalize run.map eSt = R at *
  rw [wp_sSeq]
  simp [lc1, s1, -List.map_map]
  refine later_i ?_
  rw [wp_sSeq]
  simp [lc2, s2, -List.map_map]
  refine later_i ?_
  simp [e4, e5]
end Hd
namespace Hd
open PySem PySem.Spec L2 Fx
def iD (k : Nat) : D := .int (k : Int)
theorem rng_i {n : Nat} (h : n ≤ 1000000000) : range1D [.int (n : Int)] = some ((List.range n).map iD) := by
  rw [range1_nat h, rng_nil]
  rfl
def emp (r : Rw) : Bool := r.ce.isEmpty
theorem ce_eq {r : Rw} (h : ∀ q ∈ r.ce, ∃ i : Int, q.1 = .inl i) : dEq (.tuple (r.ce.map eP)) (.tuple []) = some (.bool (emp r), false) := by
  rw [dEq_of (Sh.tup (k := 1) fun d hd => by
    obtain ⟨q, hq, rfl⟩ := List.mem_map.mp hd
    obtain ⟨i, e⟩ := h q hq
    exact sh_eP (by rw [e]; exact Sh.int i)) (sh_tnil (k := 0)) (by omega) (by omega), eqv_tnil]
  unfold emp
  cases r.ce <;> rfl
theorem Rn.ce {run : List Stt} (h : Rn run) {k : Nat} (hk : k < run.length - 1) : ∀ q ∈ (rw' run k).ce, ∃ i : Int, q.1 = .inl i := (rowT_ok (h.pr hk).gs (h.pr hk).gt).ce
noncomputable def unT (run : List Stt) : List D := ((List.range (run.length - 1)).filter fun k => emp (rw' run k)).map fun (k : Nat) => .int ((k : Int) + 1)
theorem rows_at {run : List Stt} {k : Nat} (hk : k < run.length - 1) : atI ((rowsT run).map eRw) (k : Int) = some (eRw (rw' run k)) := at_nat (by
  unfold rowsT
  rw [List.getElem?_map, List.getElem?_map, List.getElem?_range hk]
  rfl)
theorem run_at {run : List Stt} {k : Nat} (hk : k < run.length) : atI (run.map eSt) (k : Int) = some (eSt (st run k)) := at_nat (by rw [List.getElem?_map, st_at hk]; rfl)
theorem untouched_ok {run : List Stt} (h : Rn run) (hl : run.length ≤ 100) : F_untouched [.tuple (run.map eSt)] = some (.tuple (unT run), false) := by
  have e1 := undo_rows_ok h hl
  have hl2 := rowsT_len run
  have e3 : ∀ k, k < run.length - 1 → atI ((rowsT run).map eRw) (k : Int) = some (eRw (rw' run k)) := fun k hk => rows_at hk
  have hlen : ((rowsT run).map eRw).length = run.length - 1 := by rw [List.length_map, hl2]
  refine wp_val ?_
  show Wp (mk0 3 b_untouched _) _
  rw [mk0_e, wp_bind]
  show Wp (b_untouched [some (.tuple (run.map eSt), .sh), none, none]) _
  unfold b_untouched
  generalize F_undo_rows = A1 at e1 ⊢
  generalize run.map eSt = R at *
  generalize (rowsT run).map eRw = Q at *
  rw [wp_sSeq]
  simp [e1]
  refine later_i ?_
  have lc : fLc [2] (itR (aCons (toO (fN (aCons (fSlot 1) (aNil)) dLen)) (aNil)) range1D) (gN 2) (tB1 (f2 (toO (f2 (toO (f2 (fSlot 1) (fSlot 2) dIxA)) (svO (fC (.int 2))) dIxA)) (svO (fTup (lNil))) (dEq))) (toV (f2 (fSlot 2) (svO (fC (.int 1))) (dAdd))) [some (.tuple R, .sh), some (.tuple Q, .sh), none] = some (.list (unT run), true, [some (.tuple R, .sh), some (.tuple Q, .sh), none]) := by
    refine (fLc_typ iD (List.range (run.length - 1)) (fun k => emp (rw' run k)) (fun k => .int ((k : Int) + 1)) (en1 := [some (.tuple R, .sh), some (.tuple Q, .sh), none]) ?_ rfl rfl (by rw [sl_ok]; simp; omega) (fun k hk => ?_)).trans rfl
    · refine itR_s (hs := [.tv (.int (Q.length : Nat))]) (ds := [.int (Q.length : Nat)]) (by simp) (by simp) ?_
      rw [hlen]
      exact rng_i (by omega)
    · have hk := List.mem_range.mp hk
      have g1 := e3 k hk
      have g2 := eRw_2 (rw' run k)
      have g3 := ce_eq (h.ce hk)
      generalize eRw (rw' run k) = r1 at *
      refine ⟨[some (.tuple R, .sh), some (.tuple Q, .sh), some (.int (k : Int), .sh)], ?_, ?_, fun _ => ?_, rfl⟩
      · simp [wipeE, iD]
      · simp [g1, g2, g3]
      · simp
  simp [lc]
/-! ### back by many -/
def IBk (run : List Stt) (d : Nat) (sl1 sl2 : Option (D × Fl)) (ds : List D) (en : En) : Prop := ∃ (m : Nat) (x3 : Option (D × Bool)), d + m < run.length ∧ ds = ((List.range' d m).reverse.map fun k => eRw (rw' run k)) ∧ en = [some (eSt (st run (d + m)), .sh), sl1, sl2, jk x3]
theorem back_ok {run : List Stt} (h : Rn run) (hl : run.length ≤ 100) {many : Nat} (hm : many < run.length) : F_back_by [eSt (st run (run.length - 1)), .tuple ((rowsT run).map eRw), .int (many : Int)] = some (eSt (st run (run.length - 1 - many)), false) := by
  have hu : ∀ k, k < run.length - 1 → F_undone [eSt (st run (k + 1)), eRw (rw' run k)] = some (eSt (st run k), false) := fun k hk => by
    have hp := h.pr hk
    have := undone_ok (n := 20) (by omega) hp.gt (rowT_ok hp.gs hp.gt)
    rw [undT_row hp] at this
    exact this
  have hl2 := rowsT_len run
  have hlen : ((rowsT run).map eRw).length = run.length - 1 := by rw [List.length_map, hl2]
  have hsub : ((run.length - 1 : Nat) : Int) - (many : Int) = ((run.length - 1 - many : Nat) : Int) := by omega
  have hdr : ((rowsT run).map eRw).drop (run.length - 1 - many) = (List.range' (run.length - 1 - many) many).map fun k => eRw (rw' run k) := by
    unfold rowsT
    rw [List.map_map, ← List.map_drop, List.range_eq_range', List.drop_range', Nat.zero_add, Nat.mul_one]
    rw [show run.length - 1 - (run.length - 1 - many) = many by omega]
    rfl
  refine wp_val ?_
  show Wp (mk0 4 b_back_by _) _
  rw [mk0_e, wp_bind]
  show Wp (b_back_by [some (eSt (st run (run.length - 1)), .sh), some (.tuple ((rowsT run).map eRw), .sh), some (.int (many : Int), .sh), none]) _
  unfold b_back_by
  have hst : st run (run.length - 1) = st run (run.length - 1 - many + many) := by rw [show run.length - 1 - many + many = run.length - 1 by omega]
  rw [hst]
  generalize F_undone = A at hu ⊢
  generalize (rowsT run).map eRw = Q at *
  rw [wp_sSeq, wp_sFor, wp_itV]
  generalize hd : run.length - 1 - many = d at *
  simp [hlen, hsub, hdr, -wp_sSeq, -List.map_reverse]
  refine wp_mono (for_inv (IBk run d (some (.tuple Q, .sh)) (some (.int (many : Int), .sh))) (Q := fun y => y.1 = .nx ∧ IBk run d (some (.tuple Q, .sh)) (some (.int (many : Int), .sh)) [] y.2) ?_ (fun en h => ⟨rfl, h⟩) _ _ ⟨many, none, by omega, by rw [List.map_reverse], rfl⟩) ?_
  · rintro d' r en ⟨m, x3, hlt, hds, rfl⟩
    cases m with
    | zero => cases hds
    | succ m =>
      rw [List.range'_concat, List.reverse_append] at hds
      obtain ⟨rfl, rfl⟩ := List.cons.inj hds
      show Wp (gN 3 (eRw (rw' run (d + 1 * m))) _) _
      rw [Nat.one_mul]
      have hk := hu (d + m) (by omega)
      have fin : IBk run d (some (.tuple Q, .sh)) (some (.int (many : Int), .sh)) ((List.range' d m).reverse.map fun k => eRw (rw' run k)) [some (eSt (st run (d + m)), .sh), some (.tuple Q, .sh), some (.int (many : Int), .sh), some (eRw (rw' run (d + m)), .sh)] := ⟨m, some (eRw (rw' run (d + m)), false), by omega, rfl, rfl⟩
      rw [← Nat.add_assoc]
      generalize eSt (st run (d + m + 1)) = S1 at *
      generalize eSt (st run (d + m)) = S2 at *
      generalize eRw (rw' run (d + m)) = R1 at *
      simp [hk]
      simp at fin
      exact fin
  · rintro ⟨o, en⟩ ⟨rfl, m, x3, hlt, hds, rfl⟩
    have hm0 : m = 0 := by
      have := congrArg List.length hds
      simpa using this.symm
    subst hm0
    refine later_i ?_
    simp
end Hd
namespace Hd
open PySem PySem.Spec L2 Fx

def RN (run : List Stt) : Prop := Rn run ∧ 12 ≤ run.length ∧ run.length ≤ 14
theorem sh_rw {s t : Stt} (hs : GZ 20 s) (ht : GZ 20 t) : Sh 6 (eRw (rowT s t)) := Sh.tup fun d hd => by
  simp only [List.mem_cons, List.not_mem_nil, or_false] at hd
  rcases hd with rfl | rfl | rfl | rfl | rfl
  · exact Sh.mono (Sh.int _) (by omega)
  · exact Sh.mono (sh_frs (rowT_fr hs)) (by omega)
  · refine Sh.mono (Sh.tup (k := 1) fun d hd => ?_) (by omega)
    obtain ⟨q, hq, rfl⟩ := List.mem_map.mp hd
    obtain ⟨i, e⟩ := (rowT_ok hs ht).ce q hq
    exact sh_eP (by rw [e]; exact Sh.int i)
  · exact Sh.mono (Sh.int _) (by omega)
  · exact Sh.mono (Sh.int _) (by omega)
theorem Rn.shr {run : List Stt} (h : Rn run) {k : Nat} (hk : k < run.length - 1) : Sh 6 (eRw (rw' run k)) := sh_rw (h.pr hk).gs (h.pr hk).gt
theorem sh_rows {run : List Stt} (h : Rn run) : Sh 7 (.tuple ((rowsT run).map eRw)) := Sh.tup fun d hd => by
  obtain ⟨r, hr, rfl⟩ := List.mem_map.mp hd
  obtain ⟨k, hk, rfl⟩ := List.mem_map.mp hr
  exact h.shr (List.mem_range.mp hk)
theorem t0 {dr : List Int} (hd : Ok997 dr) (n : Nat) (sc : D) (x2 x3 x4 x5 x6 x7 x8 x9 x10 x11 x12 x13 x14 x15 x16 x17 x18 : Option (D × Bool)) : Wp (sSeq (sSet 3 (fCallW 0 1 (lNil) F__law_program)) (sSet 4 (fCall 3 (lCons (fName 3) (lCons (fTup (lCons (toV (fCallW 1 1 (lCons (fC (.int 4)) (lNil)) F__law_next)) (lNil))) (lCons (fC (.int 40)) (lNil)))) F_run_of)) [some (sc, .sh), some (eW dr n, .own), jk x2, jk x3, jk x4, jk x5, jk x6, jk x7, jk x8, jk x9, jk x10, jk x11, jk x12, jk x13, jk x14, jk x15, jk x16, jk x17, jk x18]) fun y => y.1 = .nx ∧ ∃ (n : Nat) (c k b : Int) (run : List Stt), RN run ∧ y.2 = [some (sc, .sh), some (eW dr n, .own), jk x2, some (.dict (ePg (pgm c k b)), .sh), some (.tuple (run.map eSt), .sh), jk x5, jk x6, jk x7, jk x8, jk x9, jk x10, jk x11, jk x12, jk x13, jk x14, jk x15, jk x16, jk x17, jk x18] := by
  obtain ⟨n1, c, k, b, c0, c1, k0, k1, b0, b1, e1⟩ := prog_ok hd n
  obtain ⟨i0, v0, v1, e2⟩ := next_ex hd n1 4 (by decide)
  obtain ⟨run, hr, r1, r2⟩ := run_ex (c := c) (k := k) (b := b) (i0 := i0) (by omega) k0 (by omega) b0 (by omega) v0 (by omega)
  have e3 := runof_ok rfl hr (most := 40) (by omega) (by omega)
  have e3 : F_run_of [.dict (ePg (pgm c k b)), .tuple [.int i0], .int 40] = some (.tuple (run.map eSt), false) := e3
  generalize F__law_program = A1 at *
  generalize F__law_next = A2 at *
  generalize F_run_of = A3 at *
  rw [wp_sSeq]
  refine wp_of (y := (Out.nx, ([some (sc, .sh), some (eW dr n1, .own), jk x2, some (.dict (ePg (pgm c k b)), .own), jk x4, jk x5, jk x6, jk x7, jk x8, jk x9, jk x10, jk x11, jk x12, jk x13, jk x14, jk x15, jk x16, jk x17, jk x18] : En))) (by simp [e1]) ?_
  refine later_i ?_
  refine wp_of (y := (Out.nx, ([some (sc, .sh), some (eW dr (n1 + 1), .own), jk x2, some (.dict (ePg (pgm c k b)), .sh), some (.tuple (run.map eSt), .sh), jk x5, jk x6, jk x7, jk x8, jk x9, jk x10, jk x11, jk x12, jk x13, jk x14, jk x15, jk x16, jk x17, jk x18] : En))) (by simp [e2, e3]) ?_
  exact ⟨rfl, n1 + 1, c, k, b, run, ⟨hr.rn (by omega), r1, r2⟩, rfl⟩
theorem Rn.end {run : List Stt} (h : Rn run) : (st run (run.length - 1)).fr = [] := by
  obtain ⟨r0, s, rfl, h0⟩ := h.last
  rw [st_last]
  exact h0
theorem frs_ne0 {fr : List Fm} (h : fr = []) : dNe (.tuple (fr.map eFm)) (.tuple []) = some (.bool false, false) := by
  rw [h]
  exact frs_ne (fr := []) fun f hf => (by cases hf)
theorem t2 {dr : List Int} (n : Nat) (sc : D) {c k b : Int} {run : List Stt} (h : RN run) (x2 x5 x6 x7 x8 x9 x10 x11 x12 x13 x14 x15 x16 x17 x18 : Option (D × Bool)) : sIf (tOrF (tB1 (f2 (toO (fN (aCons (fSlot 4) (aNil)) dLen)) (svO (fC (.int 8))) (isI iLt))) (tB1 (f2 (toO (f2 (toO (f2 (fSlot 4) (toO (f1 (svO (fC (.int 1))) dNeg)) dIxA)) (svO (fC (.int 0))) dIxA)) (svO (fTup (lNil))) (dNe)))) (sRet (ofV (fC (.bool false)))) (sNx) [some (sc, .sh), some (eW dr n, .own), jk x2, some (.dict (ePg (pgm c k b)), .sh), some (.tuple (run.map eSt), .sh), jk x5, jk x6, jk x7, jk x8, jk x9, jk x10, jk x11, jk x12, jk x13, jk x14, jk x15, jk x16, jk x17, jk x18] = some (.nx, [some (sc, .sh), some (eW dr n, .own), jk x2, some (.dict (ePg (pgm c k b)), .sh), some (.tuple (run.map eSt), .sh), jk x5, jk x6, jk x7, jk x8, jk x9, jk x10, jk x11, jk x12, jk x13, jk x14, jk x15, jk x16, jk x17, jk x18]) := by
  obtain ⟨hr, l1, l2⟩ := h
  have e1 := neg1 (run := run) (by omega)
  have e2 := eSt_0 (st run (run.length - 1))
  have e3 := frs_ne0 hr.end
  have hc : ¬ (run.length : Int) < 8 := by omega
  have hl : (run.map eSt).length = run.length := List.length_map ..
  generalize eSt (st run (run.length - 1)) = S1 at *
  generalize run.map eSt = Q at *
  simp at e1
  simp [hl, hc, e1, e2, e3]
theorem it_m (n : Nat) (hn : n ≤ 1000) : range1D [.int (n : Int)] = some ((List.range n).map iD) := rng_i (by omega)
theorem t3 {dr : List Int} (n : Nat) (sc : D) {c k b : Int} {run : List Stt} (h : RN run) (x2 x5 x6 x7 x8 x9 x10 x11 x12 x13 x14 x15 x16 x17 x18 : Option (D × Bool)) : sSet 5 (fLc [6] (itR (aCons (toO (f2 (toO (fN (aCons (fSlot 4) (aNil)) dLen)) (svO (fC (.int 1))) (isI iSub))) (aNil)) range1D) (gN 6) (tTrue) (toV (fCall 2 (lCons (toV (f2 (fSlot 4) (fSlot 6) dIxA)) (lCons (toV (f2 (fSlot 4) (toO (f2 (fSlot 6) (svO (fC (.int 1))) (dAdd))) dIxA)) (lNil))) F__law_row))) [some (sc, .sh), some (eW dr n, .own), jk x2, some (.dict (ePg (pgm c k b)), .sh), some (.tuple (run.map eSt), .sh), jk x5, jk x6, jk x7, jk x8, jk x9, jk x10, jk x11, jk x12, jk x13, jk x14, jk x15, jk x16, jk x17, jk x18] = some (.nx, [some (sc, .sh), some (eW dr n, .own), jk x2, some (.dict (ePg (pgm c k b)), .sh), some (.tuple (run.map eSt), .sh), some (.list ((rowsT run).map eRw), .own), jk x6, jk x7, jk x8, jk x9, jk x10, jk x11, jk x12, jk x13, jk x14, jk x15, jk x16, jk x17, jk x18]) := by
  obtain ⟨hr, l1, l2⟩ := h
  have hl : (run.map eSt).length = run.length := List.length_map ..
  have g : ∀ k, k < run.length - 1 → F__law_row [eSt (st run k), eSt (st run (k + 1))] = some (eRw (rw' run k), false) := fun k hk => law_row_ok (hr.pr hk).gs (hr.pr hk).gt
  have a1 : ∀ k, k < run.length → atI (run.map eSt) (k : Int) = some (eSt (st run k)) := fun k hk => run_at hk
  have hrw : (rowsT run).map eRw = (List.range (run.length - 1)).map fun k => eRw (rw' run k) := by
    unfold rowsT
    rw [List.map_map]
    rfl
  rw [hrw]
  generalize F__law_row = A1 at *
  generalize run.map eSt = Q at *
  have hsub : (run.length : Int) - 1 = ((run.length - 1 : Nat) : Int) := by omega
  have lc : fLc [6] (itR (aCons (toO (f2 (toO (fN (aCons (fSlot 4) (aNil)) dLen)) (svO (fC (.int 1))) (isI iSub))) (aNil)) range1D) (gN 6) (tTrue) (toV (fCall 2 (lCons (toV (f2 (fSlot 4) (fSlot 6) dIxA)) (lCons (toV (f2 (fSlot 4) (toO (f2 (fSlot 6) (svO (fC (.int 1))) (dAdd))) dIxA)) (lNil))) A1)) [some (sc, .sh), some (eW dr n, .own), jk x2, some (.dict (ePg (pgm c k b)), .sh), some (.tuple (Q), .sh), jk x5, jk x6, jk x7, jk x8, jk x9, jk x10, jk x11, jk x12, jk x13, jk x14, jk x15, jk x16, jk x17, jk x18] = some (.list ((List.range (run.length - 1)).map fun k => eRw (rw' run k)), true, [some (sc, .sh), some (eW dr n, .own), jk x2, some (.dict (ePg (pgm c k b)), .sh), some (.tuple (Q), .sh), jk x5, jk x6, jk x7, jk x8, jk x9, jk x10, jk x11, jk x12, jk x13, jk x14, jk x15, jk x16, jk x17, jk x18]) := by
    refine (fLc_typ iD (List.range (run.length - 1)) (fun _ => true) (fun k => eRw (rw' run k)) (en1 := [some (sc, .sh), some (eW dr n, .own), jk x2, some (.dict (ePg (pgm c k b)), .sh), some (.tuple (Q), .sh), jk x5, jk x6, jk x7, jk x8, jk x9, jk x10, jk x11, jk x12, jk x13, jk x14, jk x15, jk x16, jk x17, jk x18]) ?_ rfl rfl (by rw [sl_ok]; simp; omega) (fun k' hk => ?_)).trans (by rw [filt_true]; rfl)
    · refine itR_s (hs := [.tv (.int ((run.length - 1 : Nat) : Int))]) (ds := [.int ((run.length - 1 : Nat) : Int)]) (by simp [hl, hsub]) (by simp) (it_m _ (by omega))
    · have hk := List.mem_range.mp hk
      have g1 := g k' hk
      have b1 := a1 k' (by omega)
      have b2 := a1 (k' + 1) (by omega)
      have b2 : atI Q ((k' : Int) + 1) = some (eSt (st run (k' + 1))) := b2
      generalize eSt (st run k') = S1 at *
      generalize eSt (st run (k' + 1)) = S2 at *
      generalize eRw (rw' run k') = S3 at *
      refine ⟨[some (sc, .sh), some (eW dr n, .own), jk x2, some (.dict (ePg (pgm c k b)), .sh), some (.tuple (Q), .sh), jk x5, some (.int (k' : Int), .sh), jk x7, jk x8, jk x9, jk x10, jk x11, jk x12, jk x13, jk x14, jk x15, jk x16, jk x17, jk x18], ?_, ?_, fun _ => ?_, rfl⟩
      · simp [wipeE, iD]
      · simp
      · simp [b1, b2, g1]
  simp [lc]
theorem t4 {dr : List Int} (n : Nat) (sc : D) {c k b : Int} {run : List Stt} (h : RN run) (x2 x6 x7 x8 x9 x10 x11 x12 x13 x14 x15 x16 x17 x18 : Option (D × Bool)) : sIf (tB1 (f2 (toO (fCall 1 (lCons (fName 4) (lNil)) F_undo_rows)) (toO (fN (aCons (fSlot 5) (aNil)) dTuple)) (dNe))) (sRet (ofV (fC (.bool false)))) (sNx) [some (sc, .sh), some (eW dr n, .own), jk x2, some (.dict (ePg (pgm c k b)), .sh), some (.tuple (run.map eSt), .sh), some (.list ((rowsT run).map eRw), .own), jk x6, jk x7, jk x8, jk x9, jk x10, jk x11, jk x12, jk x13, jk x14, jk x15, jk x16, jk x17, jk x18] = some (.nx, [some (sc, .sh), some (eW dr n, .own), jk x2, some (.dict (ePg (pgm c k b)), .sh), some (.tuple (run.map eSt), .sh), some (.list ((rowsT run).map eRw), .own), jk x6, jk x7, jk x8, jk x9, jk x10, jk x11, jk x12, jk x13, jk x14, jk x15, jk x16, jk x17, jk x18]) := by
  obtain ⟨hr, l1, l2⟩ := h
  have e1 := undo_rows_ok hr (by omega)
  have e2 := dNe_same (sh_rows hr) (by omega)
  generalize F_undo_rows = A1 at *
  generalize run.map eSt = Q at *
  generalize (rowsT run).map eRw = Q2 at *
  simp [e1, e2]
end Hd
namespace Hd
open PySem PySem.Spec L2 Fx

def I5 (dr : List Int) (n : Nat) (sc : D) (c k b : Int) (run : List Stt) (x2 x7 x8 x9 x10 x11 x12 x13 x14 x15 x16 x17 x18 : Option (D × Bool)) (ds : List D) (en : En) : Prop := ∃ (is : List Nat) (x6 : Option (D × Bool)), ds = is.map iD ∧ (∀ i ∈ is, i < run.length - 1) ∧ en = [some (sc, .sh), some (eW dr n, .own), jk x2, some (.dict (ePg (pgm c k b)), .sh), some (.tuple (run.map eSt), .sh), some (.list ((rowsT run).map eRw), .own), jk x6, jk x7, jk x8, jk x9, jk x10, jk x11, jk x12, jk x13, jk x14, jk x15, jk x16, jk x17, jk x18]
theorem Rn.row {run : List Stt} (h : Rn run) {k : Nat} (hk : k < run.length - 1) : F_undo_row [eSt (st run k), eSt (st run (k + 1))] = some (eRw (rw' run k), false) ∧ F_undone [eSt (st run (k + 1)), eRw (rw' run k)] = some (eSt (st run k), false) ∧ F_is_row_for [eSt (st run k), eSt (st run (k + 1)), eRw (rw' run k)] = some (.bool true, false) ∧ F_size_of_row [eRw (rw' run k)] = some (.int (szR (rw' run k)), false) ∧ F__law_row_size [eRw (rw' run k)] = some (.int (szR (rw' run k)), false) := by
  have hp := h.pr hk
  have gr := rowT_ok hp.gs hp.gt
  have hl : (rw' run k).fr.length ≤ 1000 := Nat.le_trans (rw_fr h hk) (by omega)
  refine ⟨undo_row_ok hp.gs hp.gt, ?_, ?_, rsize_ok hl, lrsize_ok hl⟩
  · have := undone_ok (n := 20) (by omega) hp.gt gr
    rw [undT_row hp] at this
    exact this
  · obtain ⟨bb, e, hb⟩ := isrow_ok hp.gs hp.gt gr (rowT_fr hp.gs)
    rw [hb.mpr (undT_row hp)] at e
    exact e
theorem t5 {dr : List Int} (n : Nat) (sc : D) {c k b : Int} {run : List Stt} (h : RN run) (x2 x6 x7 x8 x9 x10 x11 x12 x13 x14 x15 x16 x17 x18 : Option (D × Bool)) : Wp (sFor (itR (aCons (toO (fN (aCons (fSlot 5) (aNil)) dLen)) (aNil)) range1D) (gN 6) (sSeq (sIf (tOrF (tB1 (f2 (toO (fCall 2 (lCons (toV (f2 (fSlot 4) (fSlot 6) dIxA)) (lCons (toV (f2 (fSlot 4) (toO (f2 (fSlot 6) (svO (fC (.int 1))) (dAdd))) dIxA)) (lNil))) F_undo_row)) (toO (f2 (fSlot 5) (fSlot 6) dIxA)) (dNe))) (tB1 (f2 (toO (fCall 2 (lCons (toV (f2 (fSlot 4) (toO (f2 (fSlot 6) (svO (fC (.int 1))) (dAdd))) dIxA)) (lCons (toV (f2 (fSlot 5) (fSlot 6) dIxA)) (lNil))) F_undone)) (toO (f2 (fSlot 4) (fSlot 6) dIxA)) (dNe)))) (sRet (ofV (fC (.bool false)))) (sNx)) (sIf (tOrF (tB1 (fIs (toO (fCall 3 (lCons (toV (f2 (fSlot 4) (fSlot 6) dIxA)) (lCons (toV (f2 (fSlot 4) (toO (f2 (fSlot 6) (svO (fC (.int 1))) (dAdd))) dIxA)) (lCons (toV (f2 (fSlot 5) (fSlot 6) dIxA)) (lNil)))) F_is_row_for)) (fun d => !isBD true d))) (tB1 (f2 (toO (fCall 1 (lCons (toV (f2 (fSlot 5) (fSlot 6) dIxA)) (lNil)) F_size_of_row)) (toO (fCall 1 (lCons (toV (f2 (fSlot 5) (fSlot 6) dIxA)) (lNil)) F__law_row_size)) (dNe)))) (sRet (ofV (fC (.bool false)))) (sNx))) [some (sc, .sh), some (eW dr n, .own), jk x2, some (.dict (ePg (pgm c k b)), .sh), some (.tuple (run.map eSt), .sh), some (.list ((rowsT run).map eRw), .own), jk x6, jk x7, jk x8, jk x9, jk x10, jk x11, jk x12, jk x13, jk x14, jk x15, jk x16, jk x17, jk x18]) fun y => y.1 = .nx ∧ ∃ x6 : Option (D × Bool), y.2 = [some (sc, .sh), some (eW dr n, .own), jk x2, some (.dict (ePg (pgm c k b)), .sh), some (.tuple (run.map eSt), .sh), some (.list ((rowsT run).map eRw), .own), jk x6, jk x7, jk x8, jk x9, jk x10, jk x11, jk x12, jk x13, jk x14, jk x15, jk x16, jk x17, jk x18] := by
  obtain ⟨hr, l1, l2⟩ := h
  have hl : ((rowsT run).map eRw).length = run.length - 1 := by rw [List.length_map, rowsT_len]
  have hit : itR (aCons (toO (fN (aCons (fSlot 5) (aNil)) dLen)) (aNil)) range1D [some (sc, .sh), some (eW dr n, .own), jk x2, some (.dict (ePg (pgm c k b)), .sh), some (.tuple (run.map eSt), .sh), some (.list ((rowsT run).map eRw), .own), jk x6, jk x7, jk x8, jk x9, jk x10, jk x11, jk x12, jk x13, jk x14, jk x15, jk x16, jk x17, jk x18] = some ((List.range (run.length - 1)).map iD, [some (sc, .sh), some (eW dr n, .own), jk x2, some (.dict (ePg (pgm c k b)), .sh), some (.tuple (run.map eSt), .sh), some (.list ((rowsT run).map eRw), .own), jk x6, jk x7, jk x8, jk x9, jk x10, jk x11, jk x12, jk x13, jk x14, jk x15, jk x16, jk x17, jk x18]) := itR_s (hs := [.tv (.int (((rowsT run).map eRw).length : Nat))]) (ds := [.int (((rowsT run).map eRw).length : Nat)]) (by simp) (by simp) (by rw [hl]; exact it_m _ (by omega))
  rw [wp_sFor, hit]
  refine wp_some.mpr ?_
  refine wp_mono (for_inv (I5 dr n sc c k b run x2 x7 x8 x9 x10 x11 x12 x13 x14 x15 x16 x17 x18) (Q := fun y => y.1 = .nx ∧ I5 dr n sc c k b run x2 x7 x8 x9 x10 x11 x12 x13 x14 x15 x16 x17 x18 [] y.2) ?_ (fun en h => ⟨rfl, h⟩) _ _ ⟨_, x6, rfl, fun i hi => List.mem_range.mp hi, rfl⟩) ?_
  · rintro d r en ⟨is, x6, h0, hb, rfl⟩
    cases is with
    | nil => cases h0
    | cons j is =>
      obtain ⟨rfl, rfl⟩ := List.cons.inj h0
      have hk := hb j (List.mem_cons_self ..)
      obtain ⟨g1, g2, g3, g4, g5⟩ := hr.row hk
      have b1 := run_at (run := run) (k := j) (by omega)
      have b2 : atI (run.map eSt) ((j : Int) + 1) = some (eSt (st run (j + 1))) := run_at (run := run) (k := j + 1) (by omega)
      have b3 := rows_at hk
      have n1 := dNe_same (hr.shr hk) (by omega)
      have n2 := dNe_same (hr.gz (k := j) (by omega)).sh (by omega)
      have fin : I5 dr n sc c k b run x2 x7 x8 x9 x10 x11 x12 x13 x14 x15 x16 x17 x18 (is.map iD) [some (sc, .sh), some (eW dr n, .own), jk x2, some (.dict (ePg (pgm c k b)), .sh), some (.tuple (run.map eSt), .sh), some (.list ((rowsT run).map eRw), .own), some (.int (j : Int), .sh), jk x7, jk x8, jk x9, jk x10, jk x11, jk x12, jk x13, jk x14, jk x15, jk x16, jk x17, jk x18] := ⟨is, some (.int (j : Int), false), rfl, fun i hi => hb i (List.mem_cons_of_mem _ hi), rfl⟩
      refine wp_of (y := ([some (sc, .sh), some (eW dr n, .own), jk x2, some (.dict (ePg (pgm c k b)), .sh), some (.tuple (run.map eSt), .sh), some (.list ((rowsT run).map eRw), .own), some (.int (j : Int), .sh), jk x7, jk x8, jk x9, jk x10, jk x11, jk x12, jk x13, jk x14, jk x15, jk x16, jk x17, jk x18] : En)) (by simp [iD]) ?_
      refine wp_of (y := (Out.nx, ([some (sc, .sh), some (eW dr n, .own), jk x2, some (.dict (ePg (pgm c k b)), .sh), some (.tuple (run.map eSt), .sh), some (.list ((rowsT run).map eRw), .own), some (.int (j : Int), .sh), jk x7, jk x8, jk x9, jk x10, jk x11, jk x12, jk x13, jk x14, jk x15, jk x16, jk x17, jk x18] : En))) ?_ fin
      clear fin hit
      generalize F_undo_row = A1 at *
      generalize F_undone = A2 at *
      generalize F_is_row_for = A3 at *
      generalize F_size_of_row = A4 at *
      generalize F__law_row_size = A5 at *
      generalize eSt (st run j) = S1 at *
      generalize eSt (st run (j + 1)) = S2 at *
      generalize eRw (rw' run j) = S3 at *
      generalize run.map eSt = Q at *
      generalize (rowsT run).map eRw = Q2 at *
      have hq1 : sIf (tOrF (tB1 (f2 (toO (fCall 2 (lCons (toV (f2 (fSlot 4) (fSlot 6) dIxA)) (lCons (toV (f2 (fSlot 4) (toO (f2 (fSlot 6) (svO (fC (.int 1))) (dAdd))) dIxA)) (lNil))) A1)) (toO (f2 (fSlot 5) (fSlot 6) dIxA)) (dNe))) (tB1 (f2 (toO (fCall 2 (lCons (toV (f2 (fSlot 4) (toO (f2 (fSlot 6) (svO (fC (.int 1))) (dAdd))) dIxA)) (lCons (toV (f2 (fSlot 5) (fSlot 6) dIxA)) (lNil))) A2)) (toO (f2 (fSlot 4) (fSlot 6) dIxA)) (dNe)))) (sRet (ofV (fC (.bool false)))) (sNx) [some (sc, .sh), some (eW dr n, .own), jk x2, some (.dict (ePg (pgm c k b)), .sh), some (.tuple Q, .sh), some (.list Q2, .own), some (.int (j : Int), .sh), jk x7, jk x8, jk x9, jk x10, jk x11, jk x12, jk x13, jk x14, jk x15, jk x16, jk x17, jk x18] = some (.nx, [some (sc, .sh), some (eW dr n, .own), jk x2, some (.dict (ePg (pgm c k b)), .sh), some (.tuple Q, .sh), some (.list Q2, .own), some (.int (j : Int), .sh), jk x7, jk x8, jk x9, jk x10, jk x11, jk x12, jk x13, jk x14, jk x15, jk x16, jk x17, jk x18]) := by
        simp [b1, b2, b3, g1, g2, n1, n2]
      have hq2 : sIf (tOrF (tB1 (fIs (toO (fCall 3 (lCons (toV (f2 (fSlot 4) (fSlot 6) dIxA)) (lCons (toV (f2 (fSlot 4) (toO (f2 (fSlot 6) (svO (fC (.int 1))) (dAdd))) dIxA)) (lCons (toV (f2 (fSlot 5) (fSlot 6) dIxA)) (lNil)))) A3)) (fun d => !isBD true d))) (tB1 (f2 (toO (fCall 1 (lCons (toV (f2 (fSlot 5) (fSlot 6) dIxA)) (lNil)) A4)) (toO (fCall 1 (lCons (toV (f2 (fSlot 5) (fSlot 6) dIxA)) (lNil)) A5)) (dNe)))) (sRet (ofV (fC (.bool false)))) (sNx) [some (sc, .sh), some (eW dr n, .own), jk x2, some (.dict (ePg (pgm c k b)), .sh), some (.tuple Q, .sh), some (.list Q2, .own), some (.int (j : Int), .sh), jk x7, jk x8, jk x9, jk x10, jk x11, jk x12, jk x13, jk x14, jk x15, jk x16, jk x17, jk x18] = some (.nx, [some (sc, .sh), some (eW dr n, .own), jk x2, some (.dict (ePg (pgm c k b)), .sh), some (.tuple Q, .sh), some (.list Q2, .own), some (.int (j : Int), .sh), jk x7, jk x8, jk x9, jk x10, jk x11, jk x12, jk x13, jk x14, jk x15, jk x16, jk x17, jk x18]) := by
        simp [b1, b2, b3, g3, g4, g5, dNe_int, isBD]
      unfold sSeq
      rw [hq1]
      exact hq2
  · rintro ⟨o, en⟩ ⟨rfl, is, x6, h0, hb, rfl⟩
    exact ⟨rfl, x6, rfl⟩
theorem t7 {dr : List Int} (n : Nat) (sc : D) {c k b : Int} {run : List Stt} (h : RN run) {many : Nat} (hm : many < run.length) (x2 x6 x8 x9 x10 x11 x12 x13 x14 x15 x16 x17 x18 : Option (D × Bool)) : sIf (tB1 (f2 (toO (fCall 3 (lCons (toV (f2 (fSlot 4) (toO (f1 (svO (fC (.int 1))) dNeg)) dIxA)) (lCons (toV (fN (aCons (fSlot 5) (aNil)) dTuple)) (lCons (fName 7) (lNil)))) F_back_by)) (toO (f2 (fSlot 4) (toO (f2 (toO (f2 (toO (fN (aCons (fSlot 4) (aNil)) dLen)) (svO (fC (.int 1))) (isI iSub))) (fSlot 7) (isI iSub))) dIxA)) (dNe))) (sRet (ofV (fC (.bool false)))) (sNx) [some (sc, .sh), some (eW dr n, .own), jk x2, some (.dict (ePg (pgm c k b)), .sh), some (.tuple (run.map eSt), .sh), some (.list ((rowsT run).map eRw), .own), jk x6, some (.int (many : Int), .sh), jk x8, jk x9, jk x10, jk x11, jk x12, jk x13, jk x14, jk x15, jk x16, jk x17, jk x18] = some (.nx, [some (sc, .sh), some (eW dr n, .own), jk x2, some (.dict (ePg (pgm c k b)), .sh), some (.tuple (run.map eSt), .sh), some (.list ((rowsT run).map eRw), .own), jk x6, some (.int (many : Int), .sh), jk x8, jk x9, jk x10, jk x11, jk x12, jk x13, jk x14, jk x15, jk x16, jk x17, jk x18]) := by
  obtain ⟨hr, l1, l2⟩ := h
  have hl : (run.map eSt).length = run.length := List.length_map ..
  have e1 := neg1 (run := run) (by omega)
  have e2 := back_ok hr (by omega) hm
  have e3 := run_at (run := run) (k := run.length - 1 - many) (by omega)
  have e4 := dNe_same (hr.gz (k := run.length - 1 - many) (by omega)).sh (by omega)
  have hsub : (run.length : Int) - 1 - (many : Int) = ((run.length - 1 - many : Nat) : Int) := by omega
  generalize F_back_by = A1 at *
  generalize eSt (st run (run.length - 1)) = S1 at *
  generalize eSt (st run (run.length - 1 - many)) = S2 at *
  generalize run.map eSt = Q at *
  generalize (rowsT run).map eRw = Q2 at *
  simp at e1
  simp [e1, e2, hl, hsub, e3, e4]
theorem t8 {dr : List Int} (n : Nat) (sc : D) {c k b : Int} {run : List Stt} (h : RN run) {many : Nat} (x2 x6 x8 x9 x10 x11 x12 x13 x14 x15 x16 x17 x18 : Option (D × Bool)) : sSet 8 (ofV (fTup (lCons (toV (fN (aCons (toO (fLc [9] (itV (fName 4)) (gN 9) (tTrue) (toV (fCall 1 (lCons (fName 9) (lNil)) F__law_size)))) (aNil)) dSum)) (lCons (toV (f2 (toO (fCall 1 (lCons (toV (f2 (fSlot 4) (toO (f1 (svO (fC (.int 1))) dNeg)) dIxA)) (lNil)) F__law_size)) (toO (fN (aCons (toO (fLc [10] (itV (fName 5)) (gN 10) (tTrue) (toV (fCall 1 (lCons (fName 10) (lNil)) F__law_row_size)))) (aNil)) dSum)) (dAdd))) (lNil))))) [some (sc, .sh), some (eW dr n, .own), jk x2, some (.dict (ePg (pgm c k b)), .sh), some (.tuple (run.map eSt), .sh), some (.list ((rowsT run).map eRw), .own), jk x6, some (.int (many : Int), .sh), jk x8, jk x9, jk x10, jk x11, jk x12, jk x13, jk x14, jk x15, jk x16, jk x17, jk x18] = some (.nx, [some (sc, .sh), some (eW dr n, .own), jk x2, some (.dict (ePg (pgm c k b)), .sh), some (.tuple (run.map eSt), .sh), some (.list ((rowsT run).map eRw), .sh), jk x6, some (.int (many : Int), .sh), some (.tuple [.int (szW run), .int (szL run)], .sh), jk x9, jk x10, jk x11, jk x12, jk x13, jk x14, jk x15, jk x16, jk x17, jk x18]) := by
  obtain ⟨hr, l1, l2⟩ := h
  have e1 := neg1 (run := run) (by omega)
  have e2 : ∀ s ∈ run, F__law_size [eSt s] = some (.int (szS s), false) := fun s hs => lsize_ok (by omega) (hr.all s hs)
  have e3 : ∀ r ∈ rowsT run, F__law_row_size [eRw r] = some (.int (szR r), false) := fun r hr' => by
    obtain ⟨k, hk, rfl⟩ := List.mem_map.mp hr'
    exact (hr.row (List.mem_range.mp hk)).2.2.2.2
  have e5 := e2 _ (List.mem_of_getElem? (st_at (run := run) (k := run.length - 1) (by omega)))
  have s1 := dSum_i (run.map szS)
  have s2 := dSum_i ((rowsT run).map szR)
  have hl2 := rowsT_len run
  have w1 : (run.map szS).sum = szW run := rfl
  have w2 : szL run = szS (st run (run.length - 1)) + ((rowsT run).map szR).sum := rfl
  rw [w1] at s1
  rw [w2]
  generalize F__law_size = A1 at *
  generalize F__law_row_size = A2 at *
  have lc1 : fLc [9] (itV (fName 4)) (gN 9) (tTrue) (toV (fCall 1 (lCons (fName 9) (lNil)) A1)) [some (sc, .sh), some (eW dr n, .own), jk x2, some (.dict (ePg (pgm c k b)), .sh), some (.tuple (run.map eSt), .sh), some (.list ((rowsT run).map eRw), .own), jk x6, some (.int (many : Int), .sh), jk x8, jk x9, jk x10, jk x11, jk x12, jk x13, jk x14, jk x15, jk x16, jk x17, jk x18] = some (.list ((run.map szS).map .int), true, [some (sc, .sh), some (eW dr n, .own), jk x2, some (.dict (ePg (pgm c k b)), .sh), some (.tuple (run.map eSt), .sh), some (.list ((rowsT run).map eRw), .own), jk x6, some (.int (many : Int), .sh), jk x8, jk x9, jk x10, jk x11, jk x12, jk x13, jk x14, jk x15, jk x16, jk x17, jk x18]) := by
    refine (fLc_typ eSt run (fun _ => true) (fun s => .int (szS s)) (en1 := [some (sc, .sh), some (eW dr n, .own), jk x2, some (.dict (ePg (pgm c k b)), .sh), some (.tuple (run.map eSt), .sh), some (.list ((rowsT run).map eRw), .own), jk x6, some (.int (many : Int), .sh), jk x8, jk x9, jk x10, jk x11, jk x12, jk x13, jk x14, jk x15, jk x16, jk x17, jk x18]) ?_ rfl rfl (by rw [sl_ok]; omega) (fun s hs => ?_)).trans (by rw [filt_true, List.map_map]; rfl)
    · rw [e_itV]
      simp
    · have hq := e2 s hs
      generalize eSt s = S1 at *
      refine ⟨[some (sc, .sh), some (eW dr n, .own), jk x2, some (.dict (ePg (pgm c k b)), .sh), some (.tuple (run.map eSt), .sh), some (.list ((rowsT run).map eRw), .own), jk x6, some (.int (many : Int), .sh), jk x8, some (S1, .sh), jk x10, jk x11, jk x12, jk x13, jk x14, jk x15, jk x16, jk x17, jk x18], ?_, ?_, fun _ => ?_, rfl⟩
      · simp [wipeE]
      · simp
      · simp [hq]
  have lc2 : fLc [10] (itV (fName 5)) (gN 10) (tTrue) (toV (fCall 1 (lCons (fName 10) (lNil)) A2)) [some (sc, .sh), some (eW dr n, .own), jk x2, some (.dict (ePg (pgm c k b)), .sh), some (.tuple (run.map eSt), .sh), some (.list ((rowsT run).map eRw), .own), jk x6, some (.int (many : Int), .sh), jk x8, jk x9, jk x10, jk x11, jk x12, jk x13, jk x14, jk x15, jk x16, jk x17, jk x18] = some (.list (((rowsT run).map szR).map .int), true, [some (sc, .sh), some (eW dr n, .own), jk x2, some (.dict (ePg (pgm c k b)), .sh), some (.tuple (run.map eSt), .sh), some (.list ((rowsT run).map eRw), .sh), jk x6, some (.int (many : Int), .sh), jk x8, jk x9, jk x10, jk x11, jk x12, jk x13, jk x14, jk x15, jk x16, jk x17, jk x18]) := by
    refine (fLc_typ eRw (rowsT run) (fun _ => true) (fun s => .int (szR s)) (en1 := [some (sc, .sh), some (eW dr n, .own), jk x2, some (.dict (ePg (pgm c k b)), .sh), some (.tuple (run.map eSt), .sh), some (.list ((rowsT run).map eRw), .sh), jk x6, some (.int (many : Int), .sh), jk x8, jk x9, jk x10, jk x11, jk x12, jk x13, jk x14, jk x15, jk x16, jk x17, jk x18]) ?_ rfl rfl (by rw [sl_ok]; omega) (fun s hs => ?_)).trans (by rw [filt_true, List.map_map]; rfl)
    · rw [e_itV]
      simp
    · have hq := e3 s hs
      generalize eRw s = S1 at *
      refine ⟨[some (sc, .sh), some (eW dr n, .own), jk x2, some (.dict (ePg (pgm c k b)), .sh), some (.tuple (run.map eSt), .sh), some (.list ((rowsT run).map eRw), .sh), jk x6, some (.int (many : Int), .sh), jk x8, jk x9, some (S1, .sh), jk x11, jk x12, jk x13, jk x14, jk x15, jk x16, jk x17, jk x18], ?_, ?_, fun _ => ?_, rfl⟩
      · simp [wipeE]
      · simp
      · simp [hq]
  generalize eSt (st run (run.length - 1)) = S1 at *
  generalize run.map eSt = Q at *
  generalize (rowsT run).map eRw = Q2 at *
  simp at e1
  simp [lc1, s1, e1, e5, lc2, s2, -List.map_map]
theorem t9 {dr : List Int} (n : Nat) (sc : D) {c k b : Int} {run : List Stt} (h : RN run) {many : Nat} (x2 x6 x9 x10 x11 x12 x13 x14 x15 x16 x17 x18 : Option (D × Bool)) : sIf (tOrF (tB1 (f2 (toO (fLc [9] (itV (fName 4)) (gN 9) (tB1 (f2 (toO (fCall 1 (lCons (fName 9) (lNil)) F_size_of_state)) (toO (fCall 1 (lCons (fName 9) (lNil)) F__law_size)) (dNe))) (fName 9))) (toO (fLst (lNil))) (dNe))) (tB1 (f2 (toO (fCall 1 (lCons (fName 4) (lNil)) F_sizes)) (fSlot 8) (dNe)))) (sRet (ofV (fC (.bool false)))) (sNx) [some (sc, .sh), some (eW dr n, .own), jk x2, some (.dict (ePg (pgm c k b)), .sh), some (.tuple (run.map eSt), .sh), some (.list ((rowsT run).map eRw), .sh), jk x6, some (.int (many : Int), .sh), some (.tuple [.int (szW run), .int (szL run)], .sh), jk x9, jk x10, jk x11, jk x12, jk x13, jk x14, jk x15, jk x16, jk x17, jk x18] = some (.nx, [some (sc, .sh), some (eW dr n, .own), jk x2, some (.dict (ePg (pgm c k b)), .sh), some (.tuple (run.map eSt), .sh), some (.list ((rowsT run).map eRw), .sh), jk x6, some (.int (many : Int), .sh), some (.tuple [.int (szW run), .int (szL run)], .sh), jk x9, jk x10, jk x11, jk x12, jk x13, jk x14, jk x15, jk x16, jk x17, jk x18]) := by
  obtain ⟨hr, l1, l2⟩ := h
  have e1 : ∀ s ∈ run, F__law_size [eSt s] = some (.int (szS s), false) := fun s hs => lsize_ok (by omega) (hr.all s hs)
  have e2 : ∀ s ∈ run, F_size_of_state [eSt s] = some (.int (szS s), false) := fun s hs => size_ok (by omega) (hr.all s hs)
  have e3 := sizes_ok hr (by omega) (by omega)
  have n1 : dNe (.tuple [.int (szW run), .int (szL run)]) (.tuple [.int (szW run), .int (szL run)]) = some (.bool false, false) := dNe_same (k := 1) (Sh.tup fun d hd => by
    simp only [List.mem_cons, List.not_mem_nil, or_false] at hd
    rcases hd with rfl | rfl
    · exact Sh.int _
    · exact Sh.int _) (by omega)
  have n2 : dNe (.list []) (.list []) = some (.bool false, false) := dNe_same (k := 1) (Sh.lst (k := 0) fun d hd => by cases hd) (by omega)
  generalize F__law_size = A1 at *
  generalize F_size_of_state = A2 at *
  generalize F_sizes = A3 at *
  have lc1 : fLc [9] (itV (fName 4)) (gN 9) (tB1 (f2 (toO (fCall 1 (lCons (fName 9) (lNil)) A2)) (toO (fCall 1 (lCons (fName 9) (lNil)) A1)) (dNe))) (fName 9) [some (sc, .sh), some (eW dr n, .own), jk x2, some (.dict (ePg (pgm c k b)), .sh), some (.tuple (run.map eSt), .sh), some (.list ((rowsT run).map eRw), .sh), jk x6, some (.int (many : Int), .sh), some (.tuple [.int (szW run), .int (szL run)], .sh), jk x9, jk x10, jk x11, jk x12, jk x13, jk x14, jk x15, jk x16, jk x17, jk x18] = some (.list [], true, [some (sc, .sh), some (eW dr n, .own), jk x2, some (.dict (ePg (pgm c k b)), .sh), some (.tuple (run.map eSt), .sh), some (.list ((rowsT run).map eRw), .sh), jk x6, some (.int (many : Int), .sh), some (.tuple [.int (szW run), .int (szL run)], .sh), jk x9, jk x10, jk x11, jk x12, jk x13, jk x14, jk x15, jk x16, jk x17, jk x18]) := by
    refine (fLc_typ eSt run (fun _ => false) (fun s => eSt s) (en1 := [some (sc, .sh), some (eW dr n, .own), jk x2, some (.dict (ePg (pgm c k b)), .sh), some (.tuple (run.map eSt), .sh), some (.list ((rowsT run).map eRw), .sh), jk x6, some (.int (many : Int), .sh), some (.tuple [.int (szW run), .int (szL run)], .sh), jk x9, jk x10, jk x11, jk x12, jk x13, jk x14, jk x15, jk x16, jk x17, jk x18]) ?_ rfl rfl (by rw [sl_ok]; omega) (fun s hs => ?_)).trans (by rw [show run.filter (fun _ => false) = [] from List.filter_eq_nil_iff.mpr fun _ _ z => by cases z]; rfl)
    · rw [e_itV]
      simp
    · have hq := e2 s hs
      have hq2 := e1 s hs
      generalize eSt s = S1 at *
      refine ⟨[some (sc, .sh), some (eW dr n, .own), jk x2, some (.dict (ePg (pgm c k b)), .sh), some (.tuple (run.map eSt), .sh), some (.list ((rowsT run).map eRw), .sh), jk x6, some (.int (many : Int), .sh), some (.tuple [.int (szW run), .int (szL run)], .sh), some (S1, .sh), jk x10, jk x11, jk x12, jk x13, jk x14, jk x15, jk x16, jk x17, jk x18], ?_, ?_, fun z => (by cases z), rfl⟩
      · simp [wipeE]
      · simp [hq, hq2, dNe_int]
  generalize run.map eSt = Q at *
  generalize (rowsT run).map eRw = Q2 at *
  simp [lc1, n2, e3, n1]
theorem t10 {dr : List Int} (n : Nat) (sc : D) {c k b : Int} {run : List Stt} (h : RN run) {many : Nat} (x2 x6 x9 x10 x11 x12 x13 x14 x15 x16 x17 x18 : Option (D × Bool)) : sIf (tB1 (f2 (toO (fCall 1 (lCons (fName 4) (lNil)) F_untouched)) (toO (fN (aCons (toO (fLc [6] (itR (aCons (toO (fN (aCons (fSlot 5) (aNil)) dLen)) (aNil)) range1D) (gN 6) (tB1 (f2 (toO (f2 (toO (f2 (fSlot 5) (fSlot 6) dIxA)) (svO (fC (.int 2))) dIxA)) (svO (fTup (lNil))) (dEq))) (toV (f2 (fSlot 6) (svO (fC (.int 1))) (dAdd))))) (aNil)) dTuple)) (dNe))) (sRet (ofV (fC (.bool false)))) (sNx) [some (sc, .sh), some (eW dr n, .own), jk x2, some (.dict (ePg (pgm c k b)), .sh), some (.tuple (run.map eSt), .sh), some (.list ((rowsT run).map eRw), .sh), jk x6, some (.int (many : Int), .sh), some (.tuple [.int (szW run), .int (szL run)], .sh), jk x9, jk x10, jk x11, jk x12, jk x13, jk x14, jk x15, jk x16, jk x17, jk x18] = some (.nx, [some (sc, .sh), some (eW dr n, .own), jk x2, some (.dict (ePg (pgm c k b)), .sh), some (.tuple (run.map eSt), .sh), some (.list ((rowsT run).map eRw), .sh), jk x6, some (.int (many : Int), .sh), some (.tuple [.int (szW run), .int (szL run)], .sh), jk x9, jk x10, jk x11, jk x12, jk x13, jk x14, jk x15, jk x16, jk x17, jk x18]) := by
  obtain ⟨hr, l1, l2⟩ := h
  have e1 := untouched_ok hr (by omega)
  have e3 : ∀ k, k < run.length - 1 → atI ((rowsT run).map eRw) (k : Int) = some (eRw (rw' run k)) := fun k hk => rows_at hk
  have hlen : ((rowsT run).map eRw).length = run.length - 1 := by rw [List.length_map, rowsT_len]
  have n1 : dNe (.tuple (unT run)) (.tuple (unT run)) = some (.bool false, false) := dNe_same (k := 1) (Sh.tup fun d hd => by
    obtain ⟨k, _, rfl⟩ := List.mem_map.mp hd
    exact Sh.int _) (by omega)
  generalize F_untouched = A1 at *
  generalize run.map eSt = Q at *
  generalize (rowsT run).map eRw = Q2 at *
  have lc : fLc [6] (itR (aCons (toO (fN (aCons (fSlot 5) (aNil)) dLen)) (aNil)) range1D) (gN 6) (tB1 (f2 (toO (f2 (toO (f2 (fSlot 5) (fSlot 6) dIxA)) (svO (fC (.int 2))) dIxA)) (svO (fTup (lNil))) (dEq))) (toV (f2 (fSlot 6) (svO (fC (.int 1))) (dAdd))) [some (sc, .sh), some (eW dr n, .own), jk x2, some (.dict (ePg (pgm c k b)), .sh), some (.tuple Q, .sh), some (.list Q2, .sh), jk x6, some (.int (many : Int), .sh), some (.tuple [.int (szW run), .int (szL run)], .sh), jk x9, jk x10, jk x11, jk x12, jk x13, jk x14, jk x15, jk x16, jk x17, jk x18] = some (.list (unT run), true, [some (sc, .sh), some (eW dr n, .own), jk x2, some (.dict (ePg (pgm c k b)), .sh), some (.tuple Q, .sh), some (.list Q2, .sh), jk x6, some (.int (many : Int), .sh), some (.tuple [.int (szW run), .int (szL run)], .sh), jk x9, jk x10, jk x11, jk x12, jk x13, jk x14, jk x15, jk x16, jk x17, jk x18]) := by
    refine (fLc_typ iD (List.range (run.length - 1)) (fun k => emp (rw' run k)) (fun k => .int ((k : Int) + 1)) (en1 := [some (sc, .sh), some (eW dr n, .own), jk x2, some (.dict (ePg (pgm c k b)), .sh), some (.tuple Q, .sh), some (.list Q2, .sh), jk x6, some (.int (many : Int), .sh), some (.tuple [.int (szW run), .int (szL run)], .sh), jk x9, jk x10, jk x11, jk x12, jk x13, jk x14, jk x15, jk x16, jk x17, jk x18]) ?_ rfl rfl (by rw [sl_ok]; simp; omega) (fun j hk => ?_)).trans rfl
    · refine itR_s (hs := [.tv (.int (Q2.length : Nat))]) (ds := [.int (Q2.length : Nat)]) (by simp) (by simp) ?_
      rw [hlen]
      exact rng_i (by omega)
    · have hk := List.mem_range.mp hk
      have g1 := e3 j hk
      have g2 := eRw_2 (rw' run j)
      have g3 := ce_eq (hr.ce hk)
      generalize eRw (rw' run j) = r1 at *
      refine ⟨[some (sc, .sh), some (eW dr n, .own), jk x2, some (.dict (ePg (pgm c k b)), .sh), some (.tuple Q, .sh), some (.list Q2, .sh), some (.int (j : Int), .sh), some (.int (many : Int), .sh), some (.tuple [.int (szW run), .int (szL run)], .sh), jk x9, jk x10, jk x11, jk x12, jk x13, jk x14, jk x15, jk x16, jk x17, jk x18], ?_, ?_, fun _ => ?_, rfl⟩
      · simp [wipeE, iD]
      · simp [g1, g2, g3]
      · simp
  simp [e1, lc, n1]
end Hd
namespace Hd
open PySem PySem.Spec L2 Fx

theorem t12 {dr : List Int} (n : Nat) (sc : D) {c k b : Int} {run : List Stt} (h : RN run) {many at' : Nat} (ha : at' < run.length - 1) (x2 x6 x9 x10 x12 x13 x14 x15 x16 x17 x18 : Option (D × Bool)) : sAsg (toV (f2 (fSlot 5) (fSlot 11) dIxA)) (gT 5 (gsCons (gN 12) (gsCons (gN 13) (gsCons (gN 14) (gsCons (gN 15) (gsCons (gN 16) (gsNil))))))) [some (sc, .sh), some (eW dr n, .own), jk x2, some (.dict (ePg (pgm c k b)), .sh), some (.tuple (run.map eSt), .sh), some (.list ((rowsT run).map eRw), .sh), jk x6, some (.int (many : Int), .sh), some (.tuple [.int (szW run), .int (szL run)], .sh), jk x9, jk x10, some (.int (at' : Int), .sh), jk x12, jk x13, jk x14, jk x15, jk x16, jk x17, jk x18] = some (.nx, [some (sc, .sh), some (eW dr n, .own), jk x2, some (.dict (ePg (pgm c k b)), .sh), some (.tuple (run.map eSt), .sh), some (.list ((rowsT run).map eRw), .sh), jk x6, some (.int (many : Int), .sh), some (.tuple [.int (szW run), .int (szL run)], .sh), jk x9, jk x10, some (.int (at' : Int), .sh), some (.int ((rw' run at').go : Int), .sh), some (.tuple ((rw' run at').fr.map eFm), .sh), some (.tuple ((rw' run at').ce.map eP), .sh), some (.int ((rw' run at').to : Int), .sh), some (.int ((rw' run at').ak : Int), .sh), jk x17, jk x18]) := by
  have b3 := rows_at ha
  generalize hr : rw' run at' = r at *
  generalize run.map eSt = Q at *
  generalize (rowsT run).map eRw = Q2 at *
  unfold eRw at b3
  simp [b3]
theorem t13 {dr : List Int} (n : Nat) (sc : D) {c k b : Int} {run : List Stt} (h : RN run) {many at' : Nat} (ha : at' < run.length - 1) (x2 x6 x9 x10 x17 x18 : Option (D × Bool)) : sSet 17 (f2 (fSlot 13) (svO (fTup (lCons (fTup (lCons (fC (.str "main")) (lCons (fC (.int 0)) (lCons (fTup (lNil)) (lCons (fC .none) (lNil)))))) (lNil)))) (dAdd)) [some (sc, .sh), some (eW dr n, .own), jk x2, some (.dict (ePg (pgm c k b)), .sh), some (.tuple (run.map eSt), .sh), some (.list ((rowsT run).map eRw), .sh), jk x6, some (.int (many : Int), .sh), some (.tuple [.int (szW run), .int (szL run)], .sh), jk x9, jk x10, some (.int (at' : Int), .sh), some (.int ((rw' run at').go : Int), .sh), some (.tuple ((rw' run at').fr.map eFm), .sh), some (.tuple ((rw' run at').ce.map eP), .sh), some (.int ((rw' run at').to : Int), .sh), some (.int ((rw' run at').ak : Int), .sh), jk x17, jk x18] = some (.nx, [some (sc, .sh), some (eW dr n, .own), jk x2, some (.dict (ePg (pgm c k b)), .sh), some (.tuple (run.map eSt), .sh), some (.list ((rowsT run).map eRw), .sh), jk x6, some (.int (many : Int), .sh), some (.tuple [.int (szW run), .int (szL run)], .sh), jk x9, jk x10, some (.int (at' : Int), .sh), some (.int ((rw' run at').go : Int), .sh), some (.tuple ((rw' run at').fr.map eFm), .sh), some (.tuple ((rw' run at').ce.map eP), .sh), some (.int ((rw' run at').to : Int), .sh), some (.int ((rw' run at').ak : Int), .sh), some (.tuple ((bent3 (rw' run at')).fr.map eFm), .sh), jk x18]) := by
  have hl := rw_fr h.1 ha
  generalize hr : rw' run at' = r at *
  have hz : r.fr.length + 1 ≤ 16777216 := by omega
  have hz2 : r.fr.length < 16777216 := by omega
  generalize run.map eSt = Q at *
  generalize (rowsT run).map eRw = Q2 at *
  have hm : (.tuple [.str (Str.ofString "main"), .int 0, .tuple [], .none] : D) = eFm main0 := rfl
  simp [hz, hz2, bent3, hm]
theorem t14 {dr : List Int} (n : Nat) (sc : D) {c k b : Int} {run : List Stt} (h : RN run) (hd : Ok997 dr) {many at' : Nat} (ha : at' < run.length - 1) (x2 x6 x9 x10 x18 : Option (D × Bool)) : Wp (sSet 18 (f2 (toO (fLst (lCons (fTup (lCons (fName 12) (lCons (fName 13) (lCons (toV (f2 (fSlot 14) (svO (fTup (lCons (fTup (lCons (fC (.int 77)) (lCons (fC (.int 5)) (lNil)))) (lNil)))) (dAdd))) (lCons (fName 15) (lCons (fName 16) (lNil))))))) (lCons (fTup (lCons (fName 12) (lCons (fName 13) (lCons (fName 14) (lCons (fName 15) (lCons (toV (f2 (fSlot 16) (svO (fC (.int 1))) (dAdd))) (lNil))))))) (lCons (fTup (lCons (fName 12) (lCons (fName 17) (lCons (fName 14) (lCons (fName 15) (lCons (fName 16) (lNil))))))) (lNil)))))) (toO (fCallW 1 1 (lCons (fC (.int 3)) (lNil)) F__law_next)) dIxA) [some (sc, .sh), some (eW dr n, .own), jk x2, some (.dict (ePg (pgm c k b)), .sh), some (.tuple (run.map eSt), .sh), some (.list ((rowsT run).map eRw), .sh), jk x6, some (.int (many : Int), .sh), some (.tuple [.int (szW run), .int (szL run)], .sh), jk x9, jk x10, some (.int (at' : Int), .sh), some (.int ((rw' run at').go : Int), .sh), some (.tuple ((rw' run at').fr.map eFm), .sh), some (.tuple ((rw' run at').ce.map eP), .sh), some (.int ((rw' run at').to : Int), .sh), some (.int ((rw' run at').ak : Int), .sh), some (.tuple ((bent3 (rw' run at')).fr.map eFm), .sh), jk x18]) fun y => y.1 = .nx ∧ ∃ bb : Rw, (bb = bent1 (rw' run at') ∨ bb = bent2 (rw' run at') ∨ bb = bent3 (rw' run at')) ∧ y.2 = [some (sc, .sh), some (eW dr (n + 1), .own), jk x2, some (.dict (ePg (pgm c k b)), .sh), some (.tuple (run.map eSt), .sh), some (.list ((rowsT run).map eRw), .sh), jk x6, some (.int (many : Int), .sh), some (.tuple [.int (szW run), .int (szL run)], .sh), jk x9, jk x10, some (.int (at' : Int), .sh), some (.int ((rw' run at').go : Int), .sh), some (.tuple ((rw' run at').fr.map eFm), .sh), some (.tuple ((rw' run at').ce.map eP), .sh), some (.int ((rw' run at').to : Int), .sh), some (.int ((rw' run at').ak : Int), .sh), some (.tuple ((bent3 (rw' run at')).fr.map eFm), .sh), some (eRw bb, .sh)] := by
  obtain ⟨u, u0, u1, e1⟩ := next_ex hd n 3 (by decide)
  have hl := (rowT_ok (h.1.pr ha).gs (h.1.pr ha).gt).cn
  have hl : (rw' run at').ce.length ≤ 100 := hl
  generalize hr : rw' run at' = r at *
  have hz : r.ce.length + 1 ≤ 16777216 := by omega
  have hz2 : r.ce.length < 16777216 := by omega
  generalize run.map eSt = Q at *
  generalize (rowsT run).map eRw = Q2 at *
  generalize F__law_next = A1 at *
  have w1 : eRw (bent1 r) = .tuple [.int (r.go : Int), .tuple (r.fr.map eFm), .tuple (r.ce.map eP ++ [.tuple [.int 77, .int 5]]), .int (r.to : Int), .int (r.ak : Int)] := by
    unfold eRw bent1
    simp [eP, kD]
  have w2 : eRw (bent2 r) = .tuple [.int (r.go : Int), .tuple (r.fr.map eFm), .tuple (r.ce.map eP), .int (r.to : Int), .int ((r.ak : Int) + 1)] := rfl
  have w3 : eRw (bent3 r) = .tuple [.int (r.go : Int), .tuple ((bent3 r).fr.map eFm), .tuple (r.ce.map eP), .int (r.to : Int), .int (r.ak : Int)] := rfl
  generalize hm : (bent3 r).fr.map eFm = Q3 at *
  obtain rfl | rfl | rfl : u = 0 ∨ u = 1 ∨ u = 2 := by omega
  · refine wp_of (y := (Out.nx, ([some (sc, .sh), some (eW dr (n + 1), .own), jk x2, some (.dict (ePg (pgm c k b)), .sh), some (.tuple Q, .sh), some (.list Q2, .sh), jk x6, some (.int (many : Int), .sh), some (.tuple [.int (szW run), .int (szL run)], .sh), jk x9, jk x10, some (.int (at' : Int), .sh), some (.int ((r).go : Int), .sh), some (.tuple ((r).fr.map eFm), .sh), some (.tuple ((r).ce.map eP), .sh), some (.int ((r).to : Int), .sh), some (.int ((r).ak : Int), .sh), some (.tuple Q3, .sh), some (eRw (bent1 r), .sh)] : En))) (by simp [e1, w1, hz, hz2]) ?_
    exact ⟨rfl, _, .inl rfl, rfl⟩
  · refine wp_of (y := (Out.nx, ([some (sc, .sh), some (eW dr (n + 1), .own), jk x2, some (.dict (ePg (pgm c k b)), .sh), some (.tuple Q, .sh), some (.list Q2, .sh), jk x6, some (.int (many : Int), .sh), some (.tuple [.int (szW run), .int (szL run)], .sh), jk x9, jk x10, some (.int (at' : Int), .sh), some (.int ((r).go : Int), .sh), some (.tuple ((r).fr.map eFm), .sh), some (.tuple ((r).ce.map eP), .sh), some (.int ((r).to : Int), .sh), some (.int ((r).ak : Int), .sh), some (.tuple Q3, .sh), some (eRw (bent2 r), .sh)] : En))) (by simp [e1, w2, hz, hz2]) ?_
    exact ⟨rfl, _, .inr (.inl rfl), rfl⟩
  · refine wp_of (y := (Out.nx, ([some (sc, .sh), some (eW dr (n + 1), .own), jk x2, some (.dict (ePg (pgm c k b)), .sh), some (.tuple Q, .sh), some (.list Q2, .sh), jk x6, some (.int (many : Int), .sh), some (.tuple [.int (szW run), .int (szL run)], .sh), jk x9, jk x10, some (.int (at' : Int), .sh), some (.int ((r).go : Int), .sh), some (.tuple ((r).fr.map eFm), .sh), some (.tuple ((r).ce.map eP), .sh), some (.int ((r).to : Int), .sh), some (.int ((r).ak : Int), .sh), some (.tuple Q3, .sh), some (eRw (bent3 r), .sh)] : En))) (by simp [e1, w3, hz, hz2]) ?_
    exact ⟨rfl, _, .inr (.inr rfl), rfl⟩
theorem t15 {dr : List Int} (n : Nat) (sc : D) {c k b : Int} {run : List Stt} (h : RN run) {many at' : Nat} (ha : at' < run.length - 1) {bb : Rw} (hb : bb = bent1 (rw' run at') ∨ bb = bent2 (rw' run at') ∨ bb = bent3 (rw' run at')) (x2 x6 x9 x10 : Option (D × Bool)) : sIf (tB1 (fIs (toO (fCall 3 (lCons (toV (f2 (fSlot 4) (fSlot 11) dIxA)) (lCons (toV (f2 (fSlot 4) (toO (f2 (fSlot 11) (svO (fC (.int 1))) (dAdd))) dIxA)) (lCons (fName 18) (lNil)))) F_is_row_for)) (fun d => !isBD false d))) (sRet (ofV (fC (.bool false)))) (sNx) [some (sc, .sh), some (eW dr n, .own), jk x2, some (.dict (ePg (pgm c k b)), .sh), some (.tuple (run.map eSt), .sh), some (.list ((rowsT run).map eRw), .sh), jk x6, some (.int (many : Int), .sh), some (.tuple [.int (szW run), .int (szL run)], .sh), jk x9, jk x10, some (.int (at' : Int), .sh), some (.int ((rw' run at').go : Int), .sh), some (.tuple ((rw' run at').fr.map eFm), .sh), some (.tuple ((rw' run at').ce.map eP), .sh), some (.int ((rw' run at').to : Int), .sh), some (.int ((rw' run at').ak : Int), .sh), some (.tuple ((bent3 (rw' run at')).fr.map eFm), .sh), some (eRw bb, .sh)] = some (.nx, [some (sc, .sh), some (eW dr n, .own), jk x2, some (.dict (ePg (pgm c k b)), .sh), some (.tuple (run.map eSt), .sh), some (.list ((rowsT run).map eRw), .sh), jk x6, some (.int (many : Int), .sh), some (.tuple [.int (szW run), .int (szL run)], .sh), jk x9, jk x10, some (.int (at' : Int), .sh), some (.int ((rw' run at').go : Int), .sh), some (.tuple ((rw' run at').fr.map eFm), .sh), some (.tuple ((rw' run at').ce.map eP), .sh), some (.int ((rw' run at').to : Int), .sh), some (.int ((rw' run at').ak : Int), .sh), some (.tuple ((bent3 (rw' run at')).fr.map eFm), .sh), some (eRw bb, .sh)]) := by
  have bs := bents (h.1.pr ha)
  have e1 : F_is_row_for [eSt (st run at'), eSt (st run (at' + 1)), eRw bb] = some (.bool false, false) := by
    rcases hb with rfl | rfl | rfl
    · exact bs.1
    · exact bs.2.1
    · exact bs.2.2
  have b1 := run_at (run := run) (k := at') (by omega)
  have b2 : atI (run.map eSt) ((at' : Int) + 1) = some (eSt (st run (at' + 1))) := run_at (run := run) (k := at' + 1) (by omega)
  generalize F_is_row_for = A1 at *
  generalize eSt (st run at') = S1 at *
  generalize eSt (st run (at' + 1)) = S2 at *
  generalize run.map eSt = Q at *
  generalize eRw bb = S3 at *
  simp [b1, b2, e1, isBD]
theorem seq_as (a b c : Sv) : sSeq (sSeq a b) c = sSeq a (sSeq b c) := by
  funext en
  unfold sSeq
  cases a en with
  | none => rfl
  | some z =>
    obtain ⟨o, w⟩ := z
    cases o <;> rfl
theorem seq_fin {s c : Sv} {en : En} {P Q : Out × En → Prop} (h : Wp (s en) P) (hP : ∀ y, P y → y.1 = .nx ∧ Wp (c y.2) Q) : Wp (sSeq s c en) Q := by
  obtain ⟨⟨o, z⟩, e1, p⟩ := h
  obtain ⟨q1, q2⟩ := hP _ p
  dsimp only at q1 q2
  subst q1
  unfold sSeq
  rw [e1]
  exact q2
theorem seq_assoc {a b c : Sv} {en : En} {P Q : Out × En → Prop} (h : Wp (sSeq a b en) P) (hP : ∀ y, P y → y.1 = .nx ∧ Wp (c y.2) Q) : Wp (sSeq a (sSeq b c) en) Q := by
  rw [← seq_as]
  exact seq_fin h hP
theorem seq_st {s c : Sv} {en en1 : En} {Q : Out × En → Prop} (h : s en = some (.nx, en1)) (k : Wp (c en1) Q) : Wp (sSeq s c en) Q := by
  unfold sSeq
  rw [h]
  exact k
def ITn (dr : List Int) (sc : D) (en : En) : Prop := ∃ (n : Nat) (x2 x3 x4 x5 x6 x7 x8 x9 x10 x11 x12 x13 x14 x15 x16 x17 x18 : Option (D × Bool)), en = [some (sc, .sh), some (eW dr n, .own), jk x2, jk x3, jk x4, jk x5, jk x6, jk x7, jk x8, jk x9, jk x10, jk x11, jk x12, jk x13, jk x14, jk x15, jk x16, jk x17, jk x18]
theorem turn_ok {dr : List Int} (hd : Ok997 dr) (sc d : D) (en : En) (hI : ITn dr sc en) : Wp (gN 2 d en) fun e1 => Wp (sSeq (sSet 3 (fCallW 0 1 (lNil) F__law_program)) (sSeq (sSet 4 (fCall 3 (lCons (fName 3) (lCons (fTup (lCons (toV (fCallW 1 1 (lCons (fC (.int 4)) (lNil)) F__law_next)) (lNil))) (lCons (fC (.int 40)) (lNil)))) F_run_of)) (sSeq (sIf (tOrF (tB1 (f2 (toO (fN (aCons (fSlot 4) (aNil)) dLen)) (svO (fC (.int 8))) (isI iLt))) (tB1 (f2 (toO (f2 (toO (f2 (fSlot 4) (toO (f1 (svO (fC (.int 1))) dNeg)) dIxA)) (svO (fC (.int 0))) dIxA)) (svO (fTup (lNil))) (dNe)))) (sRet (ofV (fC (.bool false)))) (sNx)) (sSeq (sSet 5 (fLc [6] (itR (aCons (toO (f2 (toO (fN (aCons (fSlot 4) (aNil)) dLen)) (svO (fC (.int 1))) (isI iSub))) (aNil)) range1D) (gN 6) (tTrue) (toV (fCall 2 (lCons (toV (f2 (fSlot 4) (fSlot 6) dIxA)) (lCons (toV (f2 (fSlot 4) (toO (f2 (fSlot 6) (svO (fC (.int 1))) (dAdd))) dIxA)) (lNil))) F__law_row)))) (sSeq (sIf (tB1 (f2 (toO (fCall 1 (lCons (fName 4) (lNil)) F_undo_rows)) (toO (fN (aCons (fSlot 5) (aNil)) dTuple)) (dNe))) (sRet (ofV (fC (.bool false)))) (sNx)) (sSeq (sFor (itR (aCons (toO (fN (aCons (fSlot 5) (aNil)) dLen)) (aNil)) range1D) (gN 6) (sSeq (sIf (tOrF (tB1 (f2 (toO (fCall 2 (lCons (toV (f2 (fSlot 4) (fSlot 6) dIxA)) (lCons (toV (f2 (fSlot 4) (toO (f2 (fSlot 6) (svO (fC (.int 1))) (dAdd))) dIxA)) (lNil))) F_undo_row)) (toO (f2 (fSlot 5) (fSlot 6) dIxA)) (dNe))) (tB1 (f2 (toO (fCall 2 (lCons (toV (f2 (fSlot 4) (toO (f2 (fSlot 6) (svO (fC (.int 1))) (dAdd))) dIxA)) (lCons (toV (f2 (fSlot 5) (fSlot 6) dIxA)) (lNil))) F_undone)) (toO (f2 (fSlot 4) (fSlot 6) dIxA)) (dNe)))) (sRet (ofV (fC (.bool false)))) (sNx)) (sIf (tOrF (tB1 (fIs (toO (fCall 3 (lCons (toV (f2 (fSlot 4) (fSlot 6) dIxA)) (lCons (toV (f2 (fSlot 4) (toO (f2 (fSlot 6) (svO (fC (.int 1))) (dAdd))) dIxA)) (lCons (toV (f2 (fSlot 5) (fSlot 6) dIxA)) (lNil)))) F_is_row_for)) (fun d => !isBD true d))) (tB1 (f2 (toO (fCall 1 (lCons (toV (f2 (fSlot 5) (fSlot 6) dIxA)) (lNil)) F_size_of_row)) (toO (fCall 1 (lCons (toV (f2 (fSlot 5) (fSlot 6) dIxA)) (lNil)) F__law_row_size)) (dNe)))) (sRet (ofV (fC (.bool false)))) (sNx)))) (sSeq (sSet 7 (fCallW 1 1 (lCons (toV (fN (aCons (fSlot 4) (aNil)) dLen)) (lNil)) F__law_next)) (sSeq (sIf (tB1 (f2 (toO (fCall 3 (lCons (toV (f2 (fSlot 4) (toO (f1 (svO (fC (.int 1))) dNeg)) dIxA)) (lCons (toV (fN (aCons (fSlot 5) (aNil)) dTuple)) (lCons (fName 7) (lNil)))) F_back_by)) (toO (f2 (fSlot 4) (toO (f2 (toO (f2 (toO (fN (aCons (fSlot 4) (aNil)) dLen)) (svO (fC (.int 1))) (isI iSub))) (fSlot 7) (isI iSub))) dIxA)) (dNe))) (sRet (ofV (fC (.bool false)))) (sNx)) (sSeq (sSet 8 (ofV (fTup (lCons (toV (fN (aCons (toO (fLc [9] (itV (fName 4)) (gN 9) (tTrue) (toV (fCall 1 (lCons (fName 9) (lNil)) F__law_size)))) (aNil)) dSum)) (lCons (toV (f2 (toO (fCall 1 (lCons (toV (f2 (fSlot 4) (toO (f1 (svO (fC (.int 1))) dNeg)) dIxA)) (lNil)) F__law_size)) (toO (fN (aCons (toO (fLc [10] (itV (fName 5)) (gN 10) (tTrue) (toV (fCall 1 (lCons (fName 10) (lNil)) F__law_row_size)))) (aNil)) dSum)) (dAdd))) (lNil)))))) (sSeq (sIf (tOrF (tB1 (f2 (toO (fLc [9] (itV (fName 4)) (gN 9) (tB1 (f2 (toO (fCall 1 (lCons (fName 9) (lNil)) F_size_of_state)) (toO (fCall 1 (lCons (fName 9) (lNil)) F__law_size)) (dNe))) (fName 9))) (toO (fLst (lNil))) (dNe))) (tB1 (f2 (toO (fCall 1 (lCons (fName 4) (lNil)) F_sizes)) (fSlot 8) (dNe)))) (sRet (ofV (fC (.bool false)))) (sNx)) (sSeq (sIf (tB1 (f2 (toO (fCall 1 (lCons (fName 4) (lNil)) F_untouched)) (toO (fN (aCons (toO (fLc [6] (itR (aCons (toO (fN (aCons (fSlot 5) (aNil)) dLen)) (aNil)) range1D) (gN 6) (tB1 (f2 (toO (f2 (toO (f2 (fSlot 5) (fSlot 6) dIxA)) (svO (fC (.int 2))) dIxA)) (svO (fTup (lNil))) (dEq))) (toV (f2 (fSlot 6) (svO (fC (.int 1))) (dAdd))))) (aNil)) dTuple)) (dNe))) (sRet (ofV (fC (.bool false)))) (sNx)) (sSeq (sSet 11 (fCallW 1 1 (lCons (toV (fN (aCons (fSlot 5) (aNil)) dLen)) (lNil)) F__law_next)) (sSeq (sAsg (toV (f2 (fSlot 5) (fSlot 11) dIxA)) (gT 5 (gsCons (gN 12) (gsCons (gN 13) (gsCons (gN 14) (gsCons (gN 15) (gsCons (gN 16) (gsNil)))))))) (sSeq (sSet 17 (f2 (fSlot 13) (svO (fTup (lCons (fTup (lCons (fC (.str "main")) (lCons (fC (.int 0)) (lCons (fTup (lNil)) (lCons (fC .none) (lNil)))))) (lNil)))) (dAdd))) (sSeq (sSet 18 (f2 (toO (fLst (lCons (fTup (lCons (fName 12) (lCons (fName 13) (lCons (toV (f2 (fSlot 14) (svO (fTup (lCons (fTup (lCons (fC (.int 77)) (lCons (fC (.int 5)) (lNil)))) (lNil)))) (dAdd))) (lCons (fName 15) (lCons (fName 16) (lNil))))))) (lCons (fTup (lCons (fName 12) (lCons (fName 13) (lCons (fName 14) (lCons (fName 15) (lCons (toV (f2 (fSlot 16) (svO (fC (.int 1))) (dAdd))) (lNil))))))) (lCons (fTup (lCons (fName 12) (lCons (fName 17) (lCons (fName 14) (lCons (fName 15) (lCons (fName 16) (lNil))))))) (lNil)))))) (toO (fCallW 1 1 (lCons (fC (.int 3)) (lNil)) F__law_next)) dIxA)) ((sIf (tB1 (fIs (toO (fCall 3 (lCons (toV (f2 (fSlot 4) (fSlot 11) dIxA)) (lCons (toV (f2 (fSlot 4) (toO (f2 (fSlot 11) (svO (fC (.int 1))) (dAdd))) dIxA)) (lCons (fName 18) (lNil)))) F_is_row_for)) (fun d => !isBD false d))) (sRet (ofV (fC (.bool false)))) (sNx))))))))))))))))) e1) fun y => y.1 = .nx ∧ ITn dr sc y.2 := by
  obtain ⟨n, x2, x3, x4, x5, x6, x7, x8, x9, x10, x11, x12, x13, x14, x15, x16, x17, x18, rfl⟩ := hI
  refine wp_of (y := ([some (sc, .sh), some (eW dr n, .own), jk (some (d, false)), jk x3, jk x4, jk x5, jk x6, jk x7, jk x8, jk x9, jk x10, jk x11, jk x12, jk x13, jk x14, jk x15, jk x16, jk x17, jk x18] : En)) (by simp; rfl) ?_
  generalize (some (d, false) : Option (D × Bool)) = x2
  refine seq_assoc (t0 hd n sc x2 x3 x4 x5 x6 x7 x8 x9 x10 x11 x12 x13 x14 x15 x16 x17 x18) ?_
  rintro ⟨o, en⟩ ⟨rfl, n, c, k, b, run, h, rfl⟩
  have hl1 := h.2.1
  have hl2 := h.2.2
  refine ⟨rfl, ?_⟩
  refine seq_st (t2 (dr := dr) n sc h x2 x5 x6 x7 x8 x9 x10 x11 x12 x13 x14 x15 x16 x17 x18) ?_
  refine seq_st (t3 (dr := dr) n sc h x2 x5 x6 x7 x8 x9 x10 x11 x12 x13 x14 x15 x16 x17 x18) ?_
  refine seq_st (t4 (dr := dr) n sc h x2 x6 x7 x8 x9 x10 x11 x12 x13 x14 x15 x16 x17 x18) ?_
  refine seq_fin (t5 (dr := dr) n sc h x2 x6 x7 x8 x9 x10 x11 x12 x13 x14 x15 x16 x17 x18) ?_
  rintro ⟨o, en⟩ ⟨rfl, x6, rfl⟩
  refine ⟨rfl, ?_⟩
  obtain ⟨many, hm, e7⟩ := next_nat hd n run.length (by omega)
  refine seq_st (en1 := [some (sc, .sh), some (eW dr (n + 1), .own), jk x2, some (.dict (ePg (pgm c k b)), .sh), some (.tuple (run.map eSt), .sh), some (.list ((rowsT run).map eRw), .own), jk x6, some (.int (many : Int), .sh), jk x8, jk x9, jk x10, jk x11, jk x12, jk x13, jk x14, jk x15, jk x16, jk x17, jk x18]) (by
    have hl : (run.map eSt).length = run.length := List.length_map ..
    generalize F__law_next = A1 at *
    generalize run.map eSt = Q at *
    generalize (rowsT run).map eRw = Q2 at *
    simp [hl, e7]) ?_
  generalize n + 1 = n at *
  refine seq_st (t7 (dr := dr) n sc h hm x2 x6 x8 x9 x10 x11 x12 x13 x14 x15 x16 x17 x18) ?_
  refine seq_st (t8 (dr := dr) n sc h x2 x6 x8 x9 x10 x11 x12 x13 x14 x15 x16 x17 x18) ?_
  refine seq_st (t9 (dr := dr) n sc h x2 x6 x9 x10 x11 x12 x13 x14 x15 x16 x17 x18) ?_
  refine seq_st (t10 (dr := dr) n sc h x2 x6 x9 x10 x11 x12 x13 x14 x15 x16 x17 x18) ?_
  obtain ⟨at', ha, e11⟩ := next_nat hd n (run.length - 1) (by omega)
  refine seq_st (en1 := [some (sc, .sh), some (eW dr (n + 1), .own), jk x2, some (.dict (ePg (pgm c k b)), .sh), some (.tuple (run.map eSt), .sh), some (.list ((rowsT run).map eRw), .sh), jk x6, some (.int (many : Int), .sh), some (.tuple [.int (szW run), .int (szL run)], .sh), jk x9, jk x10, some (.int (at' : Int), .sh), jk x12, jk x13, jk x14, jk x15, jk x16, jk x17, jk x18]) (by
    have hl : ((rowsT run).map eRw).length = run.length - 1 := by rw [List.length_map, rowsT_len]
    generalize F__law_next = A1 at *
    generalize run.map eSt = Q at *
    generalize (rowsT run).map eRw = Q2 at *
    simp [hl, e11]) ?_
  generalize n + 1 = n at *
  refine seq_st (t12 (dr := dr) n sc h ha x2 x6 x9 x10 x12 x13 x14 x15 x16 x17 x18) ?_
  refine seq_st (t13 (dr := dr) n sc h ha x2 x6 x9 x10 x17 x18) ?_
  refine seq_fin (t14 (dr := dr) n sc h hd ha x2 x6 x9 x10 x18) ?_
  rintro ⟨o, en⟩ ⟨rfl, bb, hb, rfl⟩
  refine ⟨rfl, ?_⟩
  refine wp_of (t15 (dr := dr) (n + 1) sc h ha hb x2 x6 x9 x10) ?_
  exact ⟨rfl, n + 1, x2, some (.dict (ePg (pgm c k b)), false), some (.tuple (run.map eSt), false), some (.list ((rowsT run).map eRw), false), x6, some (.int (many : Int), false), some (.tuple [.int (szW run), .int (szL run)], false), x9, x10, some (.int (at' : Int), false), some (.int ((rw' run at').go : Int), false), some (.tuple ((rw' run at').fr.map eFm), false), some (.tuple ((rw' run at').ce.map eP), false), some (.int ((rw' run at').to : Int), false), some (.int ((rw' run at').ak : Int), false), some (.tuple ((bent3 (rw' run at')).fr.map eFm), false), some (eRw bb, false), rfl⟩
theorem law_true (ns : List Int) (h : ns.length ≤ 63) : ∃ b, F_law [.list (ns.map .int)] = some (.bool true, b) := by
  have key : Wp (F_law [.list (ns.map .int)]) fun y => y.1 = .bool true := by
    show Wp (mk0 19 b_law _) _
    rw [mk0_e, wp_bind]
    show Wp (b_law [some (.list (ns.map .int), .sh), none, none, none, none, none, none, none, none, none, none, none, none, none, none, none, none, none, none]) _
    unfold b_law
    obtain ⟨y, e1, dr, hd, rfl⟩ := draws_ok ns h 80 (by omega)
    have e1 : F__law_draws [.list (ns.map .int), .int 80] = some (.list (dr.map .int), true) := e1
    have e2 : range1D [.int 3] = some ((List.range 3).map iD) := rng_i (n := 3) (by decide)
    have e3 : mergeD [] [((.inr (Str.ofString "draws") : Key), PyData.list (dr.map .int)), (.inr (Str.ofString "at"), .int 0)] = [(.str "draws", .list (dr.map .int)), (.str "at", .int (0 : Nat))] := by
      simp [mergeD, Fx.dictPut, kD, st1]
    have tk := fun sc d en h => turn_ok hd sc d en h
    generalize F__law_draws = A0 at *
    rw [wp_sSeq, e_sSet, wp_bind, e_fDisp, wp_bind]
    simp [e1]
    simp only [pairsFlat, keyOf_s, ob_some, om_some, e3, wp_some]
    simp
    refine later_i ?_
    rw [wp_sSeq, wp_sFor, itR_s (hs := [.sv (.int 3)]) (by simp) rfl e2]
    refine wp_some.mpr ?_
    refine wp_mono (for_inv (fun ds en => ITn dr (.list (ns.map .int)) en) (Q := fun y => y.1 = .nx ∧ ITn dr (.list (ns.map .int)) y.2) ?_ (fun en h => ⟨rfl, h⟩) _ _ ⟨0, none, none, none, none, none, none, none, none, none, none, none, none, none, none, none, none, none, rfl⟩) ?_
    · intro d r en h
      refine wp_mono (tk _ d en h) ?_
      intro e1 h1
      refine wp_mono h1 ?_
      rintro ⟨o, en⟩ ⟨e0, h⟩
      dsimp only at e0
      subst e0
      exact h
    · rintro ⟨o, en⟩ ⟨e0, n, x2, x3, x4, x5, x6, x7, x8, x9, x10, x11, x12, x13, x14, x15, x16, x17, x18, e4⟩
      dsimp only at e0 e4
      subst e0
      subst e4
      refine later_i ?_
      simp
  obtain ⟨⟨y1, y2⟩, e1, e2⟩ := key
  dsimp only at e2
  subst e2
  exact ⟨y2, e1⟩
end Hd
namespace Hd
open PySem PySem.Spec L2 Fx
theorem facts {P : Program} {w : World} {K : PySem.W.Frag} {h : Heap} {mg : Str → Option Value} {f : Addr} (X : K.In h) (G : h.Ns mainGlobals mg) (hfa : mg ("law" : Str) = some (.ref f)) (c : He.SaysD fa fn K) :
    ∃ fd : FuncData, (∀ (s : Shared) (v : Value), BindsTo s fd ⟨[v], []⟩ [("script", v)]) ∧ ∀ base : Heap, K.In base → base.Ns mainGlobals mg → FnOk P w K mg base CX0 26 f fd ["script"] (sp0 K 1 F_law) := by
  have cd : He.SaysD fa fn K := c
  obtain ⟨fd_is_number, D_is_number⟩ := cd.def_ 0 (d := d_is_number) rfl
  obtain ⟨fd_frozen, D_frozen⟩ := cd.def_ 1 (d := d_frozen) rfl
  obtain ⟨fd_undo_row, D_undo_row⟩ := cd.def_ 2 (d := d_undo_row) rfl
  obtain ⟨fd_undone, D_undone⟩ := cd.def_ 3 (d := d_undone) rfl
  obtain ⟨fd_undo_rows, D_undo_rows⟩ := cd.def_ 4 (d := d_undo_rows) rfl
  obtain ⟨fd_back_by, D_back_by⟩ := cd.def_ 5 (d := d_back_by) rfl
  obtain ⟨fd_size_of_state, D_size_of_state⟩ := cd.def_ 6 (d := d_size_of_state) rfl
  obtain ⟨fd_size_of_row, D_size_of_row⟩ := cd.def_ 7 (d := d_size_of_row) rfl
  obtain ⟨fd_sizes, D_sizes⟩ := cd.def_ 8 (d := d_sizes) rfl
  obtain ⟨fd_is_row_for, D_is_row_for⟩ := cd.def_ 9 (d := d_is_row_for) rfl
  obtain ⟨fd_untouched, D_untouched⟩ := cd.def_ 10 (d := d_untouched) rfl
  obtain ⟨fd_worth, D_worth⟩ := cd.def_ 11 (d := d_worth) rfl
  obtain ⟨fd_op_at, D_op_at⟩ := cd.def_ 12 (d := d_op_at) rfl
  obtain ⟨fd_first, D_first⟩ := cd.def_ 13 (d := d_first) rfl
  obtain ⟨fd_is_over, D_is_over⟩ := cd.def_ 14 (d := d_is_over) rfl
  obtain ⟨fd_variables_of, D_variables_of⟩ := cd.def_ 15 (d := d_variables_of) rfl
  obtain ⟨fd_with_variable, D_with_variable⟩ := cd.def_ 16 (d := d_with_variable) rfl
  obtain ⟨fd_given, D_given⟩ := cd.def_ 17 (d := d_given) rfl
  obtain ⟨fd_called, D_called⟩ := cd.def_ 18 (d := d_called) rfl
  obtain ⟨fd_step, D_step⟩ := cd.def_ 19 (d := d_step) rfl
  obtain ⟨fd_run_of, D_run_of⟩ := cd.def_ 20 (d := d_run_of) rfl
  obtain ⟨fd__law_draws, D__law_draws⟩ := cd.def_ 21 (d := d__law_draws) rfl
  obtain ⟨fd__law_next, D__law_next⟩ := cd.def_ 22 (d := d__law_next) rfl
  obtain ⟨fd__law_program, D__law_program⟩ := cd.def_ 23 (d := d__law_program) rfl
  obtain ⟨fd__law_row, D__law_row⟩ := cd.def_ 24 (d := d__law_row) rfl
  obtain ⟨fd__law_size, D__law_size⟩ := cd.def_ 25 (d := d__law_size) rfl
  obtain ⟨fd__law_row_size, D__law_row_size⟩ := cd.def_ 26 (d := d__law_row_size) rfl
  obtain ⟨fd_law, D_law⟩ := cd.def_ 27 (d := d_law) rfl
  have g_is_number := He.glo_ok X G (cd.fact 0 (f := .glo "is_number") rfl)
  have g_frozen := He.glo_ok X G (cd.fact 1 (f := .glo "frozen") rfl)
  have g_undo_row := He.glo_ok X G (cd.fact 2 (f := .glo "undo_row") rfl)
  have g_undone := He.glo_ok X G (cd.fact 3 (f := .glo "undone") rfl)
  have g_undo_rows := He.glo_ok X G (cd.fact 4 (f := .glo "undo_rows") rfl)
  have g_back_by := He.glo_ok X G (cd.fact 5 (f := .glo "back_by") rfl)
  have g_size_of_state := He.glo_ok X G (cd.fact 6 (f := .glo "size_of_state") rfl)
  have g_size_of_row := He.glo_ok X G (cd.fact 7 (f := .glo "size_of_row") rfl)
  have g_sizes := He.glo_ok X G (cd.fact 8 (f := .glo "sizes") rfl)
  have g_is_row_for := He.glo_ok X G (cd.fact 9 (f := .glo "is_row_for") rfl)
  have g_untouched := He.glo_ok X G (cd.fact 10 (f := .glo "untouched") rfl)
  have g_worth := He.glo_ok X G (cd.fact 11 (f := .glo "worth") rfl)
  have g_op_at := He.glo_ok X G (cd.fact 12 (f := .glo "op_at") rfl)
  have g_first := He.glo_ok X G (cd.fact 13 (f := .glo "first") rfl)
  have g_is_over := He.glo_ok X G (cd.fact 14 (f := .glo "is_over") rfl)
  have g_variables_of := He.glo_ok X G (cd.fact 15 (f := .glo "variables_of") rfl)
  have g_with_variable := He.glo_ok X G (cd.fact 16 (f := .glo "with_variable") rfl)
  have g_given := He.glo_ok X G (cd.fact 17 (f := .glo "given") rfl)
  have g_called := He.glo_ok X G (cd.fact 18 (f := .glo "called") rfl)
  have g_step := He.glo_ok X G (cd.fact 19 (f := .glo "step") rfl)
  have g_run_of := He.glo_ok X G (cd.fact 20 (f := .glo "run_of") rfl)
  have g__law_draws := He.glo_ok X G (cd.fact 21 (f := .glo "_law_draws") rfl)
  have g__law_next := He.glo_ok X G (cd.fact 22 (f := .glo "_law_next") rfl)
  have g__law_program := He.glo_ok X G (cd.fact 23 (f := .glo "_law_program") rfl)
  have g__law_row := He.glo_ok X G (cd.fact 24 (f := .glo "_law_row") rfl)
  have g__law_size := He.glo_ok X G (cd.fact 25 (f := .glo "_law_size") rfl)
  have g__law_row_size := He.glo_ok X G (cd.fact 26 (f := .glo "_law_row_size") rfl)
  have g_law := He.glo_ok X G (cd.fact 27 (f := .glo "law") rfl)
  have M : Mg mg := ⟨He.free_ok X G (cd.fact 28 (f := .free "abs") rfl), He.free_ok X G (cd.fact 29 (f := .free "bool") rfl), He.free_ok X G (cd.fact 30 (f := .free "dict") rfl), He.free_ok X G (cd.fact 31 (f := .free "int") rfl), He.free_ok X G (cd.fact 32 (f := .free "isinstance") rfl), He.free_ok X G (cd.fact 33 (f := .free "len") rfl), He.free_ok X G (cd.fact 34 (f := .free "list") rfl), He.free_ok X G (cd.fact 35 (f := .free "min") rfl), He.free_ok X G (cd.fact 36 (f := .free "range") rfl), He.free_ok X G (cd.fact 37 (f := .free "set") rfl), He.free_ok X G (cd.fact 38 (f := .free "sorted") rfl), He.free_ok X G (cd.fact 39 (f := .free "sum") rfl), He.free_ok X G (cd.fact 40 (f := .free "tuple") rfl), He.free_ok X G (cd.fact 41 (f := .free "zip") rfl)⟩
  have e := hfa.symm.trans g_law
  cases e
  have b := FunD.bindsA (ps := ["script"]) D_law fun _ _ _ _ _ _ us hl => match us, hl with | [_], _ => rfl
  refine ⟨fd_law, fun s v => b s [v] rfl, fun base _ _ => ?_⟩
  have o_is_number := ok_is_number (P := P) (w := w) (base := base) M D_is_number  g_is_number
  have o_frozen := ok_frozen (P := P) (w := w) (base := base) M D_frozen  g_frozen
  have o_undo_row := ok_undo_row (P := P) (w := w) (base := base) M D_undo_row  g_undo_row
  have o_undone := ok_undone (P := P) (w := w) (base := base) M D_undone o_frozen g_undone
  have o_undo_rows := ok_undo_rows (P := P) (w := w) (base := base) M D_undo_rows o_undo_row g_undo_rows
  have o_back_by := ok_back_by (P := P) (w := w) (base := base) M D_back_by o_undone g_back_by
  have o_size_of_state := ok_size_of_state (P := P) (w := w) (base := base) M D_size_of_state  g_size_of_state
  have o_size_of_row := ok_size_of_row (P := P) (w := w) (base := base) M D_size_of_row  g_size_of_row
  have o_sizes := ok_sizes (P := P) (w := w) (base := base) M D_sizes o_size_of_state o_undo_rows o_size_of_row g_sizes
  have o_is_row_for := ok_is_row_for (P := P) (w := w) (base := base) M D_is_row_for o_undone g_is_row_for
  have o_untouched := ok_untouched (P := P) (w := w) (base := base) M D_untouched o_undo_rows g_untouched
  have o_worth := ok_worth (P := P) (w := w) (base := base) M D_worth o_is_number g_worth
  have o_op_at := ok_op_at (P := P) (w := w) (base := base) M D_op_at  g_op_at
  have o_first := ok_first (P := P) (w := w) (base := base) M D_first  g_first
  have o_is_over := ok_is_over (P := P) (w := w) (base := base) M D_is_over  g_is_over
  have o_variables_of := ok_variables_of (P := P) (w := w) (base := base) M D_variables_of  g_variables_of
  have o_with_variable := ok_with_variable (P := P) (w := w) (base := base) M D_with_variable o_frozen g_with_variable
  have o_given := ok_given (P := P) (w := w) (base := base) M D_given o_with_variable g_given
  have o_called := ok_called (P := P) (w := w) (base := base) M D_called o_variables_of o_worth o_frozen g_called
  have o_step := ok_step (P := P) (w := w) (base := base) M D_step o_op_at o_given o_worth o_called o_with_variable o_frozen g_step
  have o_run_of := ok_run_of (P := P) (w := w) (base := base) M D_run_of o_first o_is_over o_step g_run_of
  have o__law_draws := ok__law_draws (P := P) (w := w) (base := base) M D__law_draws  g__law_draws
  have o__law_next := ok__law_next (P := P) (w := w) (base := base) M D__law_next  g__law_next
  have o__law_program := ok__law_program (P := P) (w := w) (base := base) M D__law_program o__law_next g__law_program
  have o__law_row := ok__law_row (P := P) (w := w) (base := base) M D__law_row  g__law_row
  have o__law_size := ok__law_size (P := P) (w := w) (base := base) M D__law_size  g__law_size
  have o__law_row_size := ok__law_row_size (P := P) (w := w) (base := base) M D__law_row_size  g__law_row_size
  exact fn_law M D_law o__law_draws o__law_program o_run_of o__law_next o__law_row o_undo_rows o_undo_row o_undone o_is_row_for o_size_of_row o__law_row_size o_back_by o__law_size o_size_of_state o_sizes o_untouched
end Hd
open PySem PySem.W PySem.Calls PyProof.Rows
theorem PySem.Challenge.cw_stepswatched_k10_steps_that_are_undone_holds : PySem.Challenge.rw_stepswatched_k10_steps_that_are_undone.Holds := by
  w_on; o_law
  refine HandSHeadRun.head_any (r := Hd.R) (q := view Hd.R.prog [33]) (H := Hd.hk) (ob := Hd.ob) (M := 4000) (loose := Hd.names) (d := HandSHeadRun.topDef Hd.R.prog 33) (kwd := []) Hd.ob_eq
    (by kernel_rfl) (fun s => by kernel_rfl) Hd.run (by kernel_rfl) (by kernel_rfl) (by kernel_rfl) (by rfl) (by first | assumption | decide +kernel) (by decide +kernel) ⟨rfl, rfl, rfl, rfl, rfl, by decide +kernel⟩ ?hw ?hc
  case hw => w_witness2
  case hc =>
    refine L2.walk_ofE (l := PySem.Challenge.rw_stepswatched_k10_steps_that_are_undone) (n := 63) (k := 26) (x := "script") (CX := L2.CX0) rfl (by decide) (by kernel_rfl) ⟨rfl, by decide, by decide⟩ ?F (fun _ _ _ _ z => z)
    intro w mg fa h Y G hmg0
    obtain ⟨K, KX, c⟩ := Y
    have hmg : mg ("law" : PySem.Str) = some (.ref fa) := by
      have e : (HandSHeadRun.topDef Hd.R.prog 33).name = ("law" : PySem.Str) := by kernel_rfl
      rw [← e]
      exact hmg0
    obtain ⟨fd, hb, hF⟩ := Hd.facts (P := Hd.R.prog) (w := w) KX G hmg c
    refine ⟨K, fd, Fx.sp0 K 1 Hd.F_law, KX, hb, fun H a ns hl _ hS => ?_, hF⟩
    obtain ⟨b, e⟩ := Hd.law_true ns hl
    refine ⟨H, [.list (ns.map .int)], .bool true, b, L2.Same.refl _, .cons (.lst hS (Fx.reps_ints ns)) .nil, rfl, e, fun v G' H' _ r => Fx.res_bool (G := H) (H := H) r⟩
