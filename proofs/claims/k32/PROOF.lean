import PyProof.Rows.All
import Wide.All
import OpenK.AllK
import Wide.FinOn
import KE.KStateDown
import HandS.Base
import HandS.Call
import HandS.Ends
import HandS.More
import HandS.Words
import HandS.WordsExc
import HandS.Defaults
import HandS.Head0
import HandS.Head1
import HandS.Head2
import HandS.HeadEnd
import HandS.HeadHook1
import HandS.HeadHook2
import PySem.Challenge.RW_stepswatched_k32_what_always_held
import HandS.ForMost
import HandS.Deep
import HandS.Flow
import HandS.TupAny
import HandS.IsInst
import HandS.Codes
import KE.KDictPairs
import HandS.Sort
import HandS.Style
import HandS.ReCall
import HandS.BoundList
import KE.SortData
import KE.KItemsList
import HandS.ExcValue
import HandS.DictTup
import HandS.Conv
import KE.DataMinMax
import HandS.Comp
import HandS.SetFor
import HandS.Strs
import HandS.Iter
import HandS.HeadHook3
import HandS.Text
import HandS.SetKeys
import KE.GoesMore
import KE.GoesZip
import HandS.Zip
import KE.KDictZip
import HandS.RaiseMore
set_option Elab.async false
set_option linter.all false
set_option maxRecDepth 100000
set_option maxHeartbeats 0
set_option autoImplicit false
namespace Hd
open PySem PySem.Spec PyProof.Rows L2
def top (i : Nat) : Stmt := PySem.Challenge.pw_stepswatched_k32_what_always_held.main.body.getD i (.Pass ⟨0, 0, 0, 0⟩)
abbrev R : PySem.W.OpenRow := PySem.W.OpenLaw.row PySem.Challenge.rw_stepswatched_k32_what_always_held
abbrev s_is_number : Stmt := top 3
def d_is_number : He.DefD := ⟨("is_number", none), "is_number", "is_number", defArgs s_is_number, defBody s_is_number, defScope s_is_number, [], []⟩
abbrev s_is_name : Stmt := top 4
def d_is_name : He.DefD := ⟨("is_name", none), "is_name", "is_name", defArgs s_is_name, defBody s_is_name, defScope s_is_name, [], []⟩
abbrev s_common : Stmt := top 5
def d_common : He.DefD := ⟨("common", none), "common", "common", defArgs s_common, defBody s_common, defScope s_common, [], []⟩
abbrev s_are_samples : Stmt := top 7
def d_are_samples : He.DefD := ⟨("are_samples", none), "are_samples", "are_samples", defArgs s_are_samples, defBody s_are_samples, defScope s_are_samples, [], []⟩
abbrev s_constants : Stmt := top 8
def d_constants : He.DefD := ⟨("constants", none), "constants", "constants", defArgs s_constants, defBody s_constants, defScope s_constants, [], []⟩
abbrev s_ranges : Stmt := top 9
def d_ranges : He.DefD := ⟨("ranges", none), "ranges", "ranges", defArgs s_ranges, defBody s_ranges, defScope s_ranges, [], []⟩
abbrev s_never_zero : Stmt := top 10
def d_never_zero : He.DefD := ⟨("never_zero", none), "never_zero", "never_zero", defArgs s_never_zero, defBody s_never_zero, defScope s_never_zero, [], []⟩
abbrev s_orders : Stmt := top 11
def d_orders : He.DefD := ⟨("orders", none), "orders", "orders", defArgs s_orders, defBody s_orders, defScope s_orders, [], []⟩
abbrev s_rests : Stmt := top 12
def d_rests : He.DefD := ⟨("rests", none), "rests", "rests", defArgs s_rests, defBody s_rests, defScope s_rests, [], []⟩
abbrev s_few_values : Stmt := top 13
def d_few_values : He.DefD := ⟨("few_values", none), "few_values", "few_values", defArgs s_few_values, defBody s_few_values, defScope s_few_values, [], []⟩
abbrev s__law_draws : Stmt := top 15
def d__law_draws : He.DefD := ⟨("_law_draws", none), "_law_draws", "_law_draws", defArgs s__law_draws, defBody s__law_draws, defScope s__law_draws, [], []⟩
abbrev s__law_next : Stmt := top 16
def d__law_next : He.DefD := ⟨("_law_next", none), "_law_next", "_law_next", defArgs s__law_next, defBody s__law_next, defScope s__law_next, [], []⟩
abbrev s__law_pick : Stmt := top 17
def d__law_pick : He.DefD := ⟨("_law_pick", none), "_law_pick", "_law_pick", defArgs s__law_pick, defBody s__law_pick, defScope s__law_pick, [], []⟩
abbrev s__law_says : Stmt := top 18
def d__law_says : He.DefD := ⟨("_law_says", none), "_law_says", "_law_says", defArgs s__law_says, defBody s__law_says, defScope s__law_says, [], []⟩
abbrev s__law_same : Stmt := top 19
def d__law_same : He.DefD := ⟨("_law_same", none), "_law_same", "_law_same", defArgs s__law_same, defBody s__law_same, defScope s__law_same, [], []⟩
abbrev s__law_sets : Stmt := top 20
def d__law_sets : He.DefD := ⟨("_law_sets", none), "_law_sets", "_law_sets", defArgs s__law_sets, defBody s__law_sets, defScope s__law_sets, [], []⟩
abbrev s__law_is_number : Stmt := top 21
def d__law_is_number : He.DefD := ⟨("_law_is_number", none), "_law_is_number", "_law_is_number", defArgs s__law_is_number, defBody s__law_is_number, defScope s__law_is_number, [], []⟩
abbrev s__law_same_dict : Stmt := top 22
def d__law_same_dict : He.DefD := ⟨("_law_same_dict", none), "_law_same_dict", "_law_same_dict", defArgs s__law_same_dict, defBody s__law_same_dict, defScope s__law_same_dict, [], []⟩
abbrev s__law_samples : Stmt := top 23
def d__law_samples : He.DefD := ⟨("_law_samples", none), "_law_samples", "_law_samples", defArgs s__law_samples, defBody s__law_samples, defScope s__law_samples, [], []⟩
abbrev s__law_are : Stmt := top 24
def d__law_are : He.DefD := ⟨("_law_are", none), "_law_are", "_law_are", defArgs s__law_are, defBody s__law_are, defScope s__law_are, [], []⟩
abbrev s_law : Stmt := top 25
def d_law : He.DefD := ⟨("law", none), "law", "law", defArgs s_law, defBody s_law, defScope s_law, [], []⟩
def fn : List He.DefD := [d_is_number, d_is_name, d_common, d_are_samples, d_constants, d_ranges, d_never_zero, d_orders, d_rests, d_few_values, d__law_draws, d__law_next, d__law_pick, d__law_says, d__law_same, d__law_sets, d__law_is_number, d__law_same_dict, d__law_samples, d__law_are, d_law]
def fa : List He.Fa := [.glo "is_number", .glo "is_name", .glo "common", .glo "are_samples", .glo "constants", .glo "ranges", .glo "never_zero", .glo "orders", .glo "rests", .glo "few_values", .glo "_law_draws", .glo "_law_next", .glo "_law_pick", .glo "_law_says", .glo "_law_same", .glo "_law_sets", .glo "_law_is_number", .glo "_law_same_dict", .glo "_law_samples", .glo "_law_are", .glo "law", .free "abs", .free "all", .free "bool", .free "dict", .free "int", .free "isinstance", .free "len", .free "list", .free "max", .free "min", .free "range", .free "set", .free "sorted", .free "str", .free "tuple", .str "LETTERS" "abcdefghijklmnopqrstuvwxyz", .str "DIGITS" "0123456789"]
abbrev hk : PySem.W.Hook := He.hookD 4 fa fn
def ob (s : PySem.W.SharedT) : He.AlD := He.obsDG 4 fa fn (HandSHeadRun.getT s)
theorem ob_eq (s : PySem.W.SharedT) : ob s = hk.obs s.abs := He.obsDG_eq (HandSHeadRun.getT_eq s)
def names : List PySem.Str := ("LETTERS" : PySem.Str) :: ("DIGITS" : PySem.Str) :: ("is_number" : PySem.Str) :: ("is_name" : PySem.Str) :: ("common" : PySem.Str) :: ("are_samples" : PySem.Str) :: ("constants" : PySem.Str) :: ("ranges" : PySem.Str) :: ("never_zero" : PySem.Str) :: ("orders" : PySem.Str) :: ("rests" : PySem.Str) :: ("few_values" : PySem.Str) :: ("_law_draws" : PySem.Str) :: ("_law_next" : PySem.Str) :: ("_law_pick" : PySem.Str) :: ("_law_says" : PySem.Str) :: ("_law_same" : PySem.Str) :: ("_law_sets" : PySem.Str) :: ("_law_is_number" : PySem.Str) :: ("_law_same_dict" : PySem.Str) :: ("_law_samples" : PySem.Str) :: ("_law_are" : PySem.Str) :: []
theorem run (w : World) : HandSHeadRun.RunEq R (PySem.W.view R.prog [25]) hk ob 4000 names w := by
  intro os
  kernel_rfl
end Hd
/-! Fx0: values as data, environments with owned slots, the steps. -/
namespace Fx
open PySem PySem.Spec L2

abbrev D := PyData
/-- a slot's value: shared (never written again), owned by this frame alone, or lent by the caller -/
inductive Fl where
  | sh | own | lent
  deriving DecidableEq
abbrev En := List (Option (D × Fl))

def kD : Key → D
  | .inl i => .int i
  | .inr x => .str x

/-- a tuple that stands for ever, an exact one -/
def TupG (K : PySem.W.Frag) (G : Hp) (a : Addr) (xs : List V) : Prop :=
  (∃ o, G a = some (.frz o (.tup xs)) ∧ o.dict = none) ∨
    ∃ (o : Obj) (its : Array Value) (n : Nat), K.lookup a = some o ∧ o.cls = .type "tuple" ∧ o.dict = none ∧ o.data = .seq its n ∧ its.size ≤ sizeLine ∧ Vals xs its.toList
theorem TupG.sq {K : PySem.W.Frag} {G : Hp} {a : Addr} {xs : List V} (h : TupG K G a xs) : SqT K G a xs := by
  rcases h with ⟨o, h, _⟩ | ⟨o, its, n, h1, h2, _, h3⟩
  · exact .inl (.inr ⟨o, h⟩)
  · exact .inr ⟨o, its, n, h1, h2, h3⟩
theorem TupG.mono {K : PySem.W.Frag} {G G' : Hp} {a : Addr} {xs : List V} (e : Same G G') (h : TupG K G a xs) : TupG K G' a xs := by
  rcases h with ⟨o, h, d⟩ | h
  · exact .inl ⟨o, e _ _ h, d⟩
  · exact .inr h
mutual
inductive Rep (K : PySem.W.Frag) (G : Hp) : V → D → Prop
  | non : Rep K G .non .none
  | bl (b : Bool) : Rep K G (.bl b) (.bool b)
  | int (i : Int) : Rep K G (.int i) (.int i)
  | str (x : Str) : Rep K G (.str x) (.str x)
  | tup {a : Addr} {xs : List V} {ds : List D} : TupG K G a xs → Reps K G xs ds → Rep K G (.ref a) (.tuple ds)
  | lst {a : Addr} {xs : List V} {ds : List D} : SqL K G a xs → Reps K G xs ds → Rep K G (.ref a) (.list ds)
  | dct {a : Addr} {kvs : List (Key × V)} {es : List (D × D)} : Rd G a (.dK kvs) → RepKV K G kvs es → Rep K G (.ref a) (.dict es)
inductive Reps (K : PySem.W.Frag) (G : Hp) : List V → List D → Prop
  | nil : Reps K G [] []
  | cons {v : V} {d : D} {vs : List V} {ds : List D} : Rep K G v d → Reps K G vs ds → Reps K G (v :: vs) (d :: ds)
inductive RepKV (K : PySem.W.Frag) (G : Hp) : List (Key × V) → List (D × D) → Prop
  | nil : RepKV K G [] []
  | cons {k : Key} {v : V} {d : D} {r : List (Key × V)} {s : List (D × D)} : Rep K G v d → RepKV K G r s → RepKV K G ((k, v) :: r) ((kD k, d) :: s)
end
/-- a written object -/
inductive RepO (K : PySem.W.Frag) (G : Hp) : HO → D → Prop
  | lst {xs : List V} {ds : List D} : Reps K G xs ds → RepO K G (.lst xs) (.list ds)
  | dK {kvs : List (Key × V)} {es : List (D × D)} : RepKV K G kvs es → RepO K G (.dK kvs) (.dict es)

theorem seqT {K : PySem.W.Frag} {H H' : Hp} {a : Addr} {xs : List V} (e : Same H H') (h : SqT K H a xs) : SqT K H' a xs := by
  rcases h with (h | ⟨o, h⟩) | h
  · exact .inl (.inl (e _ _ h))
  · exact .inl (.inr ⟨o, e _ _ h⟩)
  · exact .inr h
theorem rdS {H H' : Hp} {a : Addr} {u : HO} (e : Same H H') (h : Rd H a u) : Rd H' a u := by
  rcases h with h | ⟨o, h⟩
  · exact .inl (e _ _ h)
  · exact .inr ⟨o, e _ _ h⟩
section
variable {K : PySem.W.Frag} {G G' H H' : Hp}
mutual
theorem Rep.mono (e : Same G G') : ∀ {v : V} {d : D}, Rep K G v d → Rep K G' v d
  | _, _, .non => .non
  | _, _, .bl b => .bl b
  | _, _, .int i => .int i
  | _, _, .str x => .str x
  | _, _, .tup h r => .tup (h.mono e) (Reps.mono e r)
  | _, _, .lst h r => .lst (e.seq h) (Reps.mono e r)
  | _, _, .dct h r => .dct (rdS e h) (RepKV.mono e r)
theorem Reps.mono (e : Same G G') : ∀ {v : List V} {d : List D}, Reps K G v d → Reps K G' v d
  | _, _, .nil => .nil
  | _, _, .cons h r => .cons (Rep.mono e h) (Reps.mono e r)
theorem RepKV.mono (e : Same G G') : ∀ {v : List (Key × V)} {d : List (D × D)}, RepKV K G v d → RepKV K G' v d
  | _, _, .nil => .nil
  | _, _, .cons h r => .cons (Rep.mono e h) (RepKV.mono e r)
end
theorem RepO.mono (e : Same G G') : ∀ {o : HO} {d : D}, RepO K G o d → RepO K G' o d
  | _, _, .lst r => .lst (r.mono e)
  | _, _, .dK r => .dK (r.mono e)
/-- an object that is shared from now on -/
theorem RepO.rep {o : HO} {d : D} {a : Addr} (h : RepO K G o d) (e : G a = some o) : Rep K G (.ref a) d := by
  cases h with
  | lst r => exact .lst (.inl (.inl e)) r
  | dK r => exact .dct (.inl e) r
theorem Reps.length : ∀ {vs : List V} {ds : List D}, Reps K G vs ds → vs.length = ds.length
  | _, _, .nil => rfl
  | _, _, .cons _ r => congrArg Nat.succ (Reps.length r)
theorem Reps.get : ∀ {vs : List V} {ds : List D} {i : Nat} {v : V}, Reps K G vs ds → vs[i]? = some v → ∃ d, ds[i]? = some d ∧ Rep K G v d
  | _, _, _, _, .nil, e => by simp at e
  | _, _, 0, _, .cons r _, e => by simp at e; subst e; exact ⟨_, rfl, r⟩
  | _, _, i + 1, v, .cons _ t, e => by
    obtain ⟨d, h1, h2⟩ := Reps.get (i := i) (v := v) t (by simpa using e)
    exact ⟨d, by simpa using h1, h2⟩
theorem Reps.get' : ∀ {vs : List V} {ds : List D} {i : Nat} {d : D}, Reps K G vs ds → ds[i]? = some d → ∃ v, vs[i]? = some v ∧ Rep K G v d
  | _, _, _, _, .nil, e => by simp at e
  | _, _, 0, _, .cons r _, e => by simp at e; subst e; exact ⟨_, rfl, r⟩
  | _, _, i + 1, v, .cons _ t, e => by
    obtain ⟨d, h1, h2⟩ := Reps.get' (i := i) (d := v) t (by simpa using e)
    exact ⟨d, by simpa using h1, h2⟩
theorem Reps.append : ∀ {vs ws : List V} {ds es : List D}, Reps K G vs ds → Reps K G ws es → Reps K G (vs ++ ws) (ds ++ es)
  | _, _, _, _, .nil, s => s
  | _, _, _, _, .cons h r, s => .cons h (Reps.append r s)
theorem Reps.take : ∀ {vs : List V} {ds : List D} (n : Nat), Reps K G vs ds → Reps K G (vs.take n) (ds.take n)
  | _, _, 0, _ => .nil
  | _, _, _ + 1, .nil => .nil
  | _, _, n + 1, .cons h r => .cons h (Reps.take n r)
theorem Reps.drop : ∀ {vs : List V} {ds : List D} (n : Nat), Reps K G vs ds → Reps K G (vs.drop n) (ds.drop n)
  | _, _, 0, h => h
  | _, _, _ + 1, .nil => .nil
  | _, _, n + 1, .cons _ r => Reps.drop n r
theorem Reps.set {v : V} {d : D} (h : Rep K G v d) : ∀ {vs : List V} {ds : List D} (i : Nat), Reps K G vs ds → Reps K G (vs.set i v) (ds.set i d)
  | _, _, _, .nil => .nil
  | _, _, 0, .cons _ r => .cons h r
  | _, _, i + 1, .cons q r => .cons q (Reps.set h i r)
theorem Reps.reverse : ∀ {vs : List V} {ds : List D}, Reps K G vs ds → Reps K G vs.reverse ds.reverse
  | _, _, .nil => .nil
  | _, _, .cons h r => by rw [List.reverse_cons, List.reverse_cons]; exact (Reps.reverse r).append (.cons h .nil)
theorem Reps.eraseIdx : ∀ {vs : List V} {ds : List D} (i : Nat), Reps K G vs ds → Reps K G (vs.eraseIdx i) (ds.eraseIdx i)
  | _, _, _, .nil => .nil
  | _, _, 0, .cons _ r => r
  | _, _, i + 1, .cons q r => .cons q (Reps.eraseIdx i r)
end

/-! ### environments over slots and heaps -/
/-- the addresses that this frame may write -/
def OwnA (en : En) (σ : St) (b : Addr) : Prop := ∃ (i : Nat) (d : D) (f : Fl), en[i]? = some (some (d, f)) ∧ f ≠ .sh ∧ σ[i]? = some (some (.ref b))

/-- G: what stands for ever; H: all that is tracked -/
structure SR (K : PySem.W.Frag) (G H : Hp) (en : En) (σ : St) : Prop where
  sub : Same G H
  len : en.length = σ.length
  shd : ∀ (i : Nat) (d : D), en[i]? = some (some (d, .sh)) → ∃ v, σ[i]? = some (some v) ∧ Rep K G v d
  own : ∀ (i : Nat) (d : D) (f : Fl), en[i]? = some (some (d, f)) → f ≠ .sh → ∃ a o, σ[i]? = some (some (.ref a)) ∧ G a = none ∧ H a = some o ∧ RepO K G o d
  sep : ∀ (i j : Nat) (d e : D) (f g : Fl) (a : Addr), en[i]? = some (some (d, f)) → f ≠ .sh → en[j]? = some (some (e, g)) → g ≠ .sh → σ[i]? = some (some (.ref a)) → σ[j]? = some (some (.ref a)) → i = j

/-- from (G, H) to (G', H'), O alone written -/
structure Ext (O : Addr → Prop) (G H G' H' : Hp) : Prop where
  g : Same G G'
  h : ∀ b o, H b = some o → ¬ O b → H' b = some o
  n : ∀ b o, H b = some o → ¬ O b → G b = none → G' b = none
  t : ∀ b, H' b = none → H b = none

section
variable {K : PySem.W.Frag} {O O1 O2 : Addr → Prop} {G H G1 H1 G2 H2 : Hp} {en en1 en2 : En} {σ σ1 σ2 : St}
theorem Ext.refl : Ext O G H G H := ⟨Same.refl _, fun _ _ e _ => e, fun _ _ _ _ e => e, fun _ e => e⟩
theorem Ext.trans (a : Ext O1 G H G1 H1) (b : Ext O2 G1 H1 G2 H2) (k : ∀ x, O2 x → O1 x ∨ H x = none) : Ext O1 G H G2 H2 := by
  have no : ∀ x o, H x = some o → ¬ O1 x → ¬ O2 x := fun x o e n q => by
    rcases k x q with z | z
    · exact n z
    · rw [z] at e; cases e
  exact ⟨a.g.trans b.g, fun x o e n => b.h x o (a.h x o e n) (no x o e n), fun x o e n g => b.n x o (a.h x o e n) (no x o e n) (a.n x o e n g), fun x e => a.t x (b.t x e)⟩
theorem Ext.weak (a : Ext O1 G H G1 H1) (k : ∀ x o, O1 x → H x = some o → O2 x) : Ext O2 G H G1 H1 :=
  ⟨a.g, fun x o e n => a.h x o e fun q => n (k x o q e), fun x o e n g => a.n x o e (fun q => n (k x o q e)) g, a.t⟩
theorem SR.there (S : SR K G H en σ) {b : Addr} (h : OwnA en σ b) : ∃ o, H b = some o ∧ G b = none := by
  obtain ⟨i, d, f, e, n, s⟩ := h
  obtain ⟨a, o, s', g, h', _⟩ := S.own i d f e n
  rw [s] at s'
  cases s'
  exact ⟨o, h', g⟩

/-- a step within an expression: the slots stand -/
structure Step (K : PySem.W.Frag) (en en' : En) (σ : St) (G H G' H' : Hp) : Prop where
  ext : Ext (OwnA en σ) G H G' H'
  sr : SR K G' H' en' σ
  own : ∀ b, OwnA en' σ b → OwnA en σ b
  lent : ∀ (i : Nat) (d : D), en[i]? = some (some (d, .lent)) → ∃ d', en'[i]? = some (some (d', .lent))
theorem Step.refl (S : SR K G H en σ) : Step K en en σ G H G H := ⟨Ext.refl, S, fun _ h => h, fun _ d e => ⟨d, e⟩⟩
theorem Step.trans (a : Step K en en1 σ G H G1 H1) (b : Step K en1 en2 σ G1 H1 G2 H2) : Step K en en2 σ G H G2 H2 :=
  ⟨a.ext.trans b.ext fun x h => .inl (a.own x h), b.sr, fun x h => a.own x (b.own x h), fun i d e => let ⟨d', e'⟩ := a.lent i d e; b.lent i d' e'⟩
/-- a step of statements -/
structure StepS (K : PySem.W.Frag) (en : En) (σ : St) (G H : Hp) (en' : En) (σ' : St) (G' H' : Hp) : Prop where
  ext : Ext (OwnA en σ) G H G' H'
  sr : SR K G' H' en' σ'
  own : ∀ b, OwnA en' σ' b → OwnA en σ b ∨ H b = none
  lent : ∀ (i : Nat) (d : D), en[i]? = some (some (d, .lent)) → (∃ d', en'[i]? = some (some (d', .lent))) ∧ σ'[i]? = σ[i]?
theorem StepS.refl (S : SR K G H en σ) : StepS K en σ G H en σ G H := ⟨Ext.refl, S, fun _ h => .inl h, fun _ d e => ⟨⟨d, e⟩, rfl⟩⟩
theorem Step.s (a : Step K en en1 σ G H G1 H1) : StepS K en σ G H en1 σ G1 H1 := ⟨a.ext, a.sr, fun b h => .inl (a.own b h), fun i d e => ⟨a.lent i d e, rfl⟩⟩
theorem StepS.trans (a : StepS K en σ G H en1 σ1 G1 H1) (b : StepS K en1 σ1 G1 H1 en2 σ2 G2 H2) : StepS K en σ G H en2 σ2 G2 H2 :=
  ⟨a.ext.trans b.ext a.own, b.sr, fun x h => by
    rcases b.own x h with q | q
    · exact a.own x q
    · exact .inr (a.ext.t x q), fun i d e => by
    obtain ⟨⟨d', e'⟩, s⟩ := a.lent i d e
    obtain ⟨l, s'⟩ := b.lent i d' e'
    exact ⟨l, s'.trans s⟩⟩

/-! ### what an expression hands back: shared, or (b) an object of nobody yet -/
def Res (K : PySem.W.Frag) (O : Addr → Prop) (H : Hp) (O' : Addr → Prop) (G' H' : Hp) (v : V) (d : D) (b : Bool) : Prop :=
  if b then ∃ a o, v = .ref a ∧ (H a = none ∨ O a) ∧ ¬ O' a ∧ H' a = some o ∧ G' a = none ∧ RepO K G' o d else Rep K G' v d
theorem Res.sh {O O' : Addr → Prop} {G' H' : Hp} {v : V} {d : D} (h : Rep K G' v d) : Res K O H O' G' H' v d false := h
theorem Res.new {O O' : Addr → Prop} {G' H' : Hp} {a : Addr} {o : HO} {d : D} (h1 : H a = none ∨ O a) (h2 : ¬ O' a) (h3 : H' a = some o) (h4 : G' a = none) (h5 : RepO K G' o d) : Res K O H O' G' H' (.ref a) d true :=
  ⟨a, o, rfl, h1, h2, h3, h4, h5⟩

/-- what is read of an operand -/
def Use (K : PySem.W.Frag) (G H : Hp) (v : V) (d : D) : Prop := Rep K G v d ∨ ∃ a o, v = .ref a ∧ H a = some o ∧ RepO K G o d
/-- an operand that waits: a shared value, a value (that may be nobody's), a slot that is read at the end -/
inductive Hd where
  | sv (d : D)
  | tv (d : D)
  | slot (i : Nat)
def peek (en : En) (i : Nat) : Option D := match en[i]? with
  | some (some (d, _)) => some d
  | _ => none
def Hd.late (en : En) : Hd → Option D
  | .sv d => some d
  | .tv d => some d
  | .slot i => peek en i
theorem peek_some {en : En} {i : Nat} {d : D} (h : peek en i = some d) : ∃ f, en[i]? = some (some (d, f)) := by
  unfold peek at h
  split at h
  · rename_i d' f q
    cases h
    exact ⟨f, q⟩
  · cases h
def lates (en : En) : List Hd → Option (List D)
  | [] => some []
  | h :: r => match h.late en, lates en r with
    | some d, some ds => some (d :: ds)
    | _, _ => none
def HoldR (K : PySem.W.Frag) (G H : Hp) (en : En) (σ : St) (v : V) : Hd → Prop
  | .sv d => Rep K G v d
  | .tv d => Rep K G v d ∨ ∃ a o, v = .ref a ∧ H a = some o ∧ G a = none ∧ ¬ OwnA en σ a ∧ RepO K G o d
  | .slot i => σ[i]? = some (some v)
inductive HoldRs (K : PySem.W.Frag) (G H : Hp) (en : En) (σ : St) : List V → List Hd → Prop
  | nil : HoldRs K G H en σ [] []
  | cons {v : V} {h : Hd} {vs : List V} {hs : List Hd} : HoldR K G H en σ v h → HoldRs K G H en σ vs hs → HoldRs K G H en σ (v :: vs) (h :: hs)
inductive Uses (K : PySem.W.Frag) (G H : Hp) : List V → List D → Prop
  | nil : Uses K G H [] []
  | cons {v : V} {d : D} {vs : List V} {ds : List D} : Use K G H v d → Uses K G H vs ds → Uses K G H (v :: vs) (d :: ds)
theorem HoldR.step {v : V} {h : Hd} (r : HoldR K G H en σ v h) (a : Step K en en1 σ G H G1 H1) : HoldR K G1 H1 en1 σ v h := by
  cases h with
  | sv d => exact Rep.mono a.ext.g r
  | tv d =>
    rcases r with r | ⟨x, o, e, h1, h2, h3, h4⟩
    · exact .inl (Rep.mono a.ext.g r)
    · exact .inr ⟨x, o, e, a.ext.h x o h1 h3, a.ext.n x o h1 h3 h2, fun q => h3 (a.own x q), h4.mono a.ext.g⟩
  | slot i => exact r
theorem HoldRs.step : ∀ {vs : List V} {hs : List Hd}, HoldRs K G H en σ vs hs → Step K en en1 σ G H G1 H1 → HoldRs K G1 H1 en1 σ vs hs
  | _, _, .nil, _ => .nil
  | _, _, .cons h r, a => .cons (h.step a) (HoldRs.step r a)
theorem HoldR.use {v : V} {h : Hd} {d : D} (S : SR K G H en σ) (r : HoldR K G H en σ v h) (e : h.late en = some d) : Use K G H v d := by
  cases h with
  | sv d' => cases e; exact .inl r
  | tv d' =>
    cases e
    rcases r with r | ⟨x, o, e, h1, h2, h3, h4⟩
    · exact .inl r
    · exact .inr ⟨x, o, e, h1, h4⟩
  | slot i =>
    obtain ⟨f, q⟩ := peek_some (show peek en i = some d from e)
    have r' : σ[i]? = some (some v) := r
    by_cases hf : f = .sh
    · subst hf
      obtain ⟨w, e1, e2⟩ := S.shd i _ q
      rw [r'] at e1; cases e1
      exact .inl e2
    · obtain ⟨a, o, e1, _, e3, e4⟩ := S.own i _ f q hf
      rw [r'] at e1; cases e1
      exact .inr ⟨a, o, rfl, e3, e4⟩
theorem HoldRs.uses (S : SR K G H en σ) : ∀ {vs : List V} {hs : List Hd} {ds : List D}, HoldRs K G H en σ vs hs → lates en hs = some ds → Uses K G H vs ds
  | _, _, _, .nil, e => by cases e; exact .nil
  | _, _, _, .cons h r, e => by
    unfold lates at e
    split at e
    · rename_i d ds e1 e2
      cases e
      exact .cons (h.use S e1) (HoldRs.uses S r e2)
    · cases e

/-! ### reading an operand's data -/
theorem Use.list {v : V} {ds : List D} (s : Same G H) (u : Use K G H v (.list ds)) : ∃ a xs, v = .ref a ∧ SqL K H a xs ∧ Reps K G xs ds := by
  rcases u with u | ⟨a, o, rfl, h, r⟩
  · cases u with
    | lst h r => exact ⟨_, _, rfl, s.seq h, r⟩
  · cases r with
    | lst r => exact ⟨a, _, rfl, .inl (.inl h), r⟩
theorem Use.tupG {v : V} {ds : List D} (u : Use K G H v (.tuple ds)) : ∃ a xs, v = .ref a ∧ TupG K G a xs ∧ Reps K G xs ds := by
  rcases u with u | ⟨a, o, rfl, h, r⟩
  · cases u with
    | tup h r => exact ⟨_, _, rfl, h, r⟩
  · cases r
theorem Use.tuple {v : V} {ds : List D} (s : Same G H) (u : Use K G H v (.tuple ds)) : ∃ a xs, v = .ref a ∧ SqT K H a xs ∧ Reps K G xs ds :=
  let ⟨a, xs, e, h, r⟩ := u.tupG
  ⟨a, xs, e, seqT s h.sq, r⟩
theorem Use.dict {v : V} {es : List (D × D)} (s : Same G H) (u : Use K G H v (.dict es)) : ∃ a kvs, v = .ref a ∧ Rd H a (.dK kvs) ∧ RepKV K G kvs es := by
  rcases u with u | ⟨a, o, rfl, h, r⟩
  · cases u with
    | dct h r => exact ⟨_, _, rfl, rdS s h, r⟩
  · cases r with
    | dK r => exact ⟨a, _, rfl, .inl h, r⟩
theorem Use.int {v : V} {i : Int} (u : Use K G H v (.int i)) : v = .int i := by
  rcases u with u | ⟨a, o, rfl, h, r⟩
  · cases u; rfl
  · cases r
theorem Use.str {v : V} {x : Str} (u : Use K G H v (.str x)) : v = .str x := by
  rcases u with u | ⟨a, o, rfl, h, r⟩
  · cases u; rfl
  · cases r
theorem Use.bool {v : V} {b : Bool} (u : Use K G H v (.bool b)) : v = .bl b := by
  rcases u with u | ⟨a, o, rfl, h, r⟩
  · cases u; rfl
  · cases r
theorem Use.none {v : V} (u : Use K G H v .none) : v = .non := by
  rcases u with u | ⟨a, o, rfl, h, r⟩
  · cases u; rfl
  · cases r
theorem Uses.one {vs : List V} {d : D} (u : Uses K G H vs [d]) : ∃ v, vs = [v] ∧ Use K G H v d := by
  cases u with
  | cons h r => cases r; exact ⟨_, rfl, h⟩
theorem Uses.two {vs : List V} {d e : D} (u : Uses K G H vs [d, e]) : ∃ v w, vs = [v, w] ∧ Use K G H v d ∧ Use K G H w e := by
  cases u with
  | cons h r => obtain ⟨w, rfl, h2⟩ := r.one; exact ⟨_, _, rfl, h, h2⟩
end

/-! ### the readings -/
abbrev Ev := En → Option (D × Bool × En)
abbrev Vv := En → Option (D × En)
abbrev Ov := En → Option (Hd × En)
abbrev Av := En → Option (List Hd × En)
abbrev Tv := En → Option (Bool × En)
inductive Out where
  | nx | rt (d : D) (b : Bool) | bk | ct
abbrev Sv := En → Option (Out × En)
section
variable (K : PySem.W.Frag)
def FE (f : Ev) : TE := fun σ H Q => ∃ G en d b en', SR K G H en σ ∧ f en = some (d, b, en') ∧ ∀ v G' H', Step K en en' σ G H G' H' → Res K (OwnA en σ) H (OwnA en' σ) G' H' v d b → Q v H'
def FV (f : Vv) : TE := fun σ H Q => ∃ G en d en', SR K G H en σ ∧ f en = some (d, en') ∧ ∀ v G' H', Step K en en' σ G H G' H' → Rep K G' v d → Q v H'
def FO (f : Ov) : TE := fun σ H Q => ∃ G en h en', SR K G H en σ ∧ f en = some (h, en') ∧ ∀ v G' H', Step K en en' σ G H G' H' → HoldR K G' H' en' σ v h → Q v H'
def FA (f : Av) : TA := fun σ H Q => ∃ G en hs en', SR K G H en σ ∧ f en = some (hs, en') ∧ ∀ vs G' H', Step K en en' σ G H G' H' → HoldRs K G' H' en' σ vs hs → Q vs H'
def FT (f : Tv) : TT := fun σ H Q => ∃ G en b en', SR K G H en σ ∧ f en = some (b, en') ∧ ∀ G' H', Step K en en' σ G H G' H' → Q b H'
def OutR (D : Ends) (en : En) (σ : St) (G H : Hp) (en' : En) : Out → Prop
  | .nx => ∀ G' H' σ', StepS K en σ G H en' σ' G' H' → D.nx σ' H'
  | .bk => ∀ G' H' σ', StepS K en σ G H en' σ' G' H' → D.bk σ' H'
  | .ct => ∀ G' H' σ', StepS K en σ G H en' σ' G' H' → D.ct σ' H'
  | .rt d b => ∀ v G' H' σ', StepS K en σ G H en' σ' G' H' → Res K (OwnA en σ) H (OwnA en' σ') G' H' v d b → D.rt v H'
def FS (g : Sv) : TS := fun D σ H => ∃ G en out en', SR K G H en σ ∧ g en = some (out, en') ∧ OutR K D en σ G H en' out
end
theorem pe_imp {X : Cx} {e : Expr} {t t' : TE} (h : PE X e t) (k : ∀ σ H Q, t' σ H Q → t σ H Q) : PE X e t' := ⟨fun pins s σ H Q I q => h.run pins s σ H Q I (k _ _ _ q)⟩
theorem pt_imp {X : Cx} {e : Expr} {t t' : TT} (h : PT X e t) (k : ∀ σ H Q, t' σ H Q → t σ H Q) : PT X e t' := ⟨fun pins s σ H Q I q => h.run pins s σ H Q I (k _ _ _ q)⟩
theorem pw_imp {X : Cx} {e : Expr} {t t' : TT} (h : PW X e t) (k : ∀ σ H Q, t' σ H Q → t σ H Q) : PW X e t' := ⟨fun wh pins s σ H Q I q => h.run wh pins s σ H Q I (k _ _ _ q)⟩
theorem pa_imp {X : Cx} {e : List Expr} {t t' : TA} (h : PA X e t) (k : ∀ σ H Q, t' σ H Q → t σ H Q) : PA X e t' := ⟨fun pos pins s σ H Q I q => h.run pos pins s σ H Q I (k _ _ _ q)⟩
theorem ps_imp {X : Cx} {e : Stmt} {t t' : TS} (h : PS X e t) (k : ∀ D σ H, t' D σ H → t D σ H) : PS X e t' := ⟨fun pins s σ H D I q => h.run pins s σ H D I (k _ _ _ q)⟩
theorem pss_imp {X : Cx} {e : List Stmt} {t t' : TS} (h : PSs X e t) (k : ∀ D σ H, t' D σ H → t D σ H) : PSs X e t' := ⟨fun pins s σ H D I q => h.run pins s σ H D I (k _ _ _ q)⟩
end Fx
/-! Fx1: names, constants, operands, operators, tests, displays. -/
namespace Fx
open PySem PySem.Spec L2
section
variable {K : PySem.W.Frag} {G H G1 H1 : Hp} {en en1 : En} {σ : St}

theorem same_upd {a : Addr} {o : HO} (h : G a = none) : Same G (upd G a o) := fun b u e => by
  rw [upd_ne (ne_of_none e h)]
  exact e
/-- an object of nobody is shared from now on -/
theorem SR.share {a : Addr} {o : HO} (S : SR K G H en σ) (h1 : H a = some o) (h2 : G a = none) (h3 : ¬ OwnA en σ a) : SR K (upd G a o) H en σ := by
  have s := same_upd (o := o) h2
  refine ⟨fun b u e => ?_, S.len, fun i d e => ?_, fun i d f e n => ?_, S.sep⟩
  · by_cases hb : b = a
    · subst hb
      rw [upd_same] at e
      cases e
      exact h1
    · rw [upd_ne hb] at e
      exact S.sub b u e
  · obtain ⟨v, e1, e2⟩ := S.shd i d e
    exact ⟨v, e1, e2.mono s⟩
  · obtain ⟨b, u, e1, e2, e3, e4⟩ := S.own i d f e n
    have hb : b ≠ a := fun z => h3 ⟨i, d, f, e, n, by rw [← z]; exact e1⟩
    exact ⟨b, u, e1, by rw [upd_ne hb]; exact e2, e3, e4.mono s⟩
theorem Step.share {a : Addr} {o : HO} (T : Step K en en1 σ G H G1 H1) (h0 : H a = none ∨ OwnA en σ a) (h1 : H1 a = some o) (h2 : G1 a = none) (h3 : ¬ OwnA en1 σ a) : Step K en en1 σ G H (upd G1 a o) H1 := by
  refine ⟨⟨T.ext.g.trans (same_upd h2), T.ext.h, fun b u e n g => ?_, T.ext.t⟩, T.sr.share h1 h2 h3, T.own, T.lent⟩
  have hb : b ≠ a := fun z => by
    subst z
    rcases h0 with h0 | h0
    · rw [h0] at e; cases e
    · exact n h0
  rw [upd_ne hb]
  exact T.ext.n b u e n g
/-- a slot's own object is shared from now on -/
theorem own_set {i : Nat} {d : D} {f : Fl} {b : Addr} (e : en[i]? = some (some (d, f))) (hf : f ≠ .sh) {d' : D} (h : OwnA (en.set i (some (d', .sh))) σ b) : OwnA en σ b := by
  obtain ⟨j, d2, g, e1, n, s⟩ := h
  by_cases hj : j = i
  · subst hj
    rw [List.getElem?_set_self (List.getElem?_eq_some_iff.mp e).1] at e1
    cases e1
    exact absurd rfl n
  · rw [List.getElem?_set_ne (Ne.symm hj)] at e1
    exact ⟨j, d2, g, e1, n, s⟩
theorem SR.demote {i : Nat} {d : D} (S : SR K G H en σ) (e : en[i]? = some (some (d, .own))) : ∃ (a : Addr) (o : HO), σ[i]? = some (some (.ref a)) ∧ Rep K (upd G a o) (.ref a) d ∧ Step K en (en.set i (some (d, .sh))) σ G H (upd G a o) H := by
  obtain ⟨a, o, e1, e2, e3, e4⟩ := S.own i d .own e (by decide)
  have hi : i < en.length := (List.getElem?_eq_some_iff.mp e).1
  have s := same_upd (o := o) e2
  have r : Rep K (upd G a o) (.ref a) d := (e4.mono s).rep upd_same
  have me : OwnA en σ a := ⟨i, d, .own, e, by decide, e1⟩
  refine ⟨a, o, e1, r, ⟨⟨s, fun b u h _ => h, fun b u h n g => ?_, fun _ h => h⟩, ⟨fun b u h => ?_, by simpa using S.len, fun j d2 h => ?_, fun j d2 f h n => ?_, fun j k d2 d3 f g b h1 n1 h2 n2 => ?_⟩, fun b h => own_set e (by decide) h, fun j d2 h => ?_⟩⟩
  · have hb : b ≠ a := fun z => n (by rw [z]; exact me)
    rw [upd_ne hb]
    exact g
  · by_cases hb : b = a
    · subst hb
      rw [upd_same] at h
      cases h
      exact e3
    · rw [upd_ne hb] at h
      exact S.sub b u h
  · by_cases hj : j = i
    · subst hj
      rw [List.getElem?_set_self hi] at h
      cases h
      exact ⟨_, e1, r⟩
    · rw [List.getElem?_set_ne (Ne.symm hj)] at h
      obtain ⟨v, q1, q2⟩ := S.shd j d2 h
      exact ⟨v, q1, q2.mono s⟩
  · by_cases hj : j = i
    · subst hj
      rw [List.getElem?_set_self hi] at h
      cases h
      exact absurd rfl n
    · rw [List.getElem?_set_ne (Ne.symm hj)] at h
      obtain ⟨b, u, q1, q2, q3, q4⟩ := S.own j d2 f h n
      have hb : b ≠ a := fun z => by
        subst z
        exact hj (S.sep j i d2 d f .own b h n e (by decide) q1 e1)
      exact ⟨b, u, q1, by rw [upd_ne hb]; exact q2, q3, q4.mono s⟩
  · have no : ∀ (j : Nat) (d2 : D) (f : Fl), (en.set i (some (d, .sh)))[j]? = some (some (d2, f)) → f ≠ .sh → en[j]? = some (some (d2, f)) := fun j d2 f h n => by
      by_cases hj : j = i
      · subst hj
        rw [List.getElem?_set_self hi] at h
        cases h
        exact absurd rfl n
      · rw [List.getElem?_set_ne (Ne.symm hj)] at h
        exact h
    exact S.sep j k d2 d3 f g b (no j d2 f h1 n1) n1 (no k d3 g h2 n2) n2
  · have hj : j ≠ i := fun z => by
      subst z
      rw [e] at h
      cases h
    exact ⟨d2, by rw [List.getElem?_set_ne (Ne.symm hj)]; exact h⟩
/-- nothing is written: new objects alone, shared or nobody's -/
structure New (G H G1 H1 : Hp) : Prop where
  ext : Ext (fun _ => False) G H G1 H1
  sub : Same G1 H1
theorem New.refl (s : Same G H) : New G H G H := ⟨Ext.refl, s⟩
theorem New.step (S : SR K G H en σ) (E : New G H G1 H1) : Step K en en σ G H G1 H1 := by
  have sub : Same H H1 := fun b u h => E.ext.h b u h (fun z => z)
  refine ⟨E.ext.weak fun _ _ z _ => z.elim, ⟨E.sub, S.len, fun i d e => ?_, fun i d f e n => ?_, S.sep⟩, fun _ h => h, fun _ d e => ⟨d, e⟩⟩
  · obtain ⟨v, e1, e2⟩ := S.shd i d e
    exact ⟨v, e1, e2.mono E.ext.g⟩
  · obtain ⟨a, o, e1, e2, e3, e4⟩ := S.own i d f e n
    exact ⟨a, o, e1, E.ext.n a o e3 (fun z => z) e2, sub a o e3, e4.mono E.ext.g⟩
/-- a new object of nobody -/
theorem New.own {p : Addr} {o : HO} (s : Same G H) (hp : H p = none) : New G H G (upd H p o) := by
  refine ⟨⟨Same.refl _, fun b u e _ => ?_, fun _ _ _ _ g => g, fun b e => ?_⟩, fun b u e => ?_⟩
  · rw [upd_ne (ne_of_none e hp)]; exact e
  · by_cases hb : b = p
    · rw [hb]; exact hp
    · rw [upd_ne hb] at e; exact e
  · rw [upd_ne (ne_of_none (s b u e) hp)]; exact s b u e
/-- a new object that is shared at once -/
theorem New.shd {p : Addr} {o : HO} (s : Same G H) (hp : H p = none) : New G H (upd G p o) (upd H p o) := by
  have gp : G p = none := s.free hp
  refine ⟨⟨same_upd gp, fun b u e _ => ?_, fun b u e _ g => ?_, fun b e => ?_⟩, fun b u e => ?_⟩
  · rw [upd_ne (ne_of_none e hp)]; exact e
  · rw [upd_ne (ne_of_none e hp)]; exact g
  · by_cases hb : b = p
    · rw [hb]; exact hp
    · rw [upd_ne hb] at e; exact e
  · by_cases hb : b = p
    · subst hb; rw [upd_same] at e ⊢; exact e
    · rw [upd_ne hb] at e ⊢; exact s b u e
/-- a result over new objects alone -/
def Fresh (K : PySem.W.Frag) (H G1 H1 : Hp) (v : V) (d : D) (b : Bool) : Prop := Res K (fun _ => False) H (fun _ => False) G1 H1 v d b
theorem Fresh.res {v : V} {d : D} {b : Bool} (S : SR K G H en σ) (h : Fresh K H G1 H1 v d b) : Res K (OwnA en σ) H (OwnA en σ) G1 H1 v d b := by
  cases b with
  | false => exact h
  | true =>
    obtain ⟨a, o, e, h1, _, h3, h4, h5⟩ := h
    have hn : H a = none := h1.resolve_right fun z => z
    refine ⟨a, o, e, .inl hn, fun q => ?_, h3, h4, h5⟩
    obtain ⟨u, e1, _⟩ := S.there q
    rw [hn] at e1
    cases e1
theorem Fresh.res' {G2 H2 : Hp} {v : V} {d : D} {b : Bool} (T : Step K en en1 σ G H G1 H1) (h : Fresh K H1 G2 H2 v d b) : Res K (OwnA en σ) H (OwnA en1 σ) G2 H2 v d b := by
  have q := Fresh.res T.sr h
  cases b with
  | false => exact h
  | true =>
    obtain ⟨a, o, e, q1, q2, q3, q4, q5⟩ := q
    refine ⟨a, o, e, ?_, q2, q3, q4, q5⟩
    rcases q1 with q1 | q1
    · exact .inl (T.ext.t a q1)
    · exact .inr (T.own a q1)
theorem Fresh.sh {v : V} {d : D} (h : Rep K G1 v d) : Fresh K H G1 H1 v d false := h
theorem Fresh.new {p : Addr} {o : HO} {d : D} (s : Same G H) (hp : H p = none) (r : RepO K G o d) : Fresh K H G (upd H p o) (.ref p) d true :=
  ⟨p, o, rfl, .inl hp, fun z => z, upd_same, s.free hp, r⟩
end

/-! ### from one form to another -/
section
variable {X : Cx} {e : Expr} {pos : Pos}
def toV (f : Ev) : Vv := fun en => match f en with
  | some (d, _, en') => some (d, en')
  | none => none
def ofV (f : Vv) : Ev := fun en => match f en with
  | some (d, en') => some (d, false, en')
  | none => none
def toO (f : Ev) : Ov := fun en => match f en with
  | some (d, _, en') => some (.tv d, en')
  | none => none
def svO (f : Vv) : Ov := fun en => match f en with
  | some (d, en') => some (.sv d, en')
  | none => none
theorem res_share {K : PySem.W.Frag} {G H G1 H1 : Hp} {en en1 : En} {σ : St} {v : V} {d : D} {b : Bool} (T : Step K en en1 σ G H G1 H1) (r : Res K (OwnA en σ) H (OwnA en1 σ) G1 H1 v d b) : ∃ G2, Step K en en1 σ G H G2 H1 ∧ Rep K G2 v d := by
  cases b with
  | false => exact ⟨G1, T, r⟩
  | true =>
    obtain ⟨a, o, rfl, h1, h2, h3, h4, h5⟩ := r
    exact ⟨_, T.share (h1) h3 h4 h2, (h5.mono (same_upd h4)).rep upd_same⟩
theorem fv_e {f : Ev} (h : PE X e (FE X.K f)) : PE X e (FV X.K (toV f)) := pe_imp h fun σ H Q ⟨G, en, d, en', S, e1, k⟩ => by
  unfold toV at e1
  split at e1
  · rename_i d' b en2 e2
    cases e1
    exact ⟨G, en, _, b, _, S, e2, fun v G' H' T r => let ⟨G2, T2, r2⟩ := res_share T r; k v G2 H' T2 r2⟩
  · cases e1
theorem fe_v {f : Vv} (h : PE X e (FV X.K f)) : PE X e (FE X.K (ofV f)) := pe_imp h fun σ H Q ⟨G, en, d, b, en', S, e1, k⟩ => by
  unfold ofV at e1
  split at e1
  · rename_i d' en2 e2
    cases e1
    exact ⟨G, en, _, _, S, e2, fun v G' H' T r => k v G' H' T r⟩
  · cases e1
theorem fo_e {f : Ev} (h : PE X e (FE X.K f)) : PE X e (FO X.K (toO f)) := pe_imp h fun σ H Q ⟨G, en, hd, en', S, e1, k⟩ => by
  unfold toO at e1
  split at e1
  · rename_i d' b en2 e2
    cases e1
    refine ⟨G, en, _, b, _, S, e2, fun v G' H' T r => k v G' H' T ?_⟩
    cases b with
    | false => exact .inl r
    | true =>
      obtain ⟨a, o, rfl, h1, h2, h3, h4, h5⟩ := r
      exact .inr ⟨a, o, rfl, h3, h4, h2, h5⟩
  · cases e1
theorem fo_v {f : Vv} (h : PE X e (FV X.K f)) : PE X e (FO X.K (svO f)) := pe_imp h fun σ H Q ⟨G, en, hd, en', S, e1, k⟩ => by
  unfold svO at e1
  split at e1
  · rename_i d' en2 e2
    cases e1
    exact ⟨G, en, _, _, S, e2, fun v G' H' T r => k v G' H' T r⟩
  · cases e1

/-! ### names, constants -/
def fName (i : Nat) : Vv := fun en => match en[i]? with
  | some (some (d, .sh)) => some (d, en)
  | some (some (d, .own)) => some (d, en.set i (some (d, .sh)))
  | _ => none
def fSlot (i : Nat) : Ov := fun en => match peek en i with
  | some _ => some (.slot i, en)
  | none => none
theorem fv_name {i : Nat} (h : PE X e (tVar i)) : PE X e (FV X.K (fName i)) := pe_imp h fun σ H Q ⟨G, en, d, en', S, e1, k⟩ => by
  unfold fName at e1
  split at e1
  · rename_i d' e2
    cases e1
    obtain ⟨v, q1, q2⟩ := S.shd i _ e2
    exact ⟨v, q1, k v G H (Step.refl S) q2⟩
  · rename_i d' e2
    cases e1
    obtain ⟨a, o, q1, q2, q3⟩ := S.demote e2
    exact ⟨_, q1, k _ _ _ q3 q2⟩
  · cases e1
theorem fo_name {i : Nat} (h : PE X e (tVar i)) : PE X e (FO X.K (fSlot i)) := pe_imp h fun σ H Q ⟨G, en, hd, en', S, e1, k⟩ => by
  unfold fSlot at e1
  split at e1
  · rename_i d e2
    cases e1
    obtain ⟨f, q⟩ := peek_some e2
    by_cases hf : f = .sh
    · subst hf
      obtain ⟨v, q1, q2⟩ := S.shd i _ q
      exact ⟨v, q1, k v G H (Step.refl S) q1⟩
    · obtain ⟨a, o, q1, q2, q3, q4⟩ := S.own i _ f q hf
      exact ⟨_, q1, k _ G H (Step.refl S) q1⟩
  · cases e1
def fC (d : D) : Vv := fun en => some (d, en)
theorem fv_c {v : V} {d : D} (h : PE X e (tC v)) (r : ∀ G, Rep X.K G v d) : PE X e (FV X.K (fC d)) := pe_imp h fun σ H Q ⟨G, en, d', en', S, e1, k⟩ => by
  cases e1
  exact k v G H (Step.refl S) (r G)
theorem fv_int {i : Int} {j} : PE X (.Constant (.int i) j pos) (FV X.K (fC (.int i))) := fv_c pe_int fun _ => .int i
theorem fv_bl {b : Bool} {j} : PE X (.Constant (.bool b) j pos) (FV X.K (fC (.bool b))) := fv_c pe_bl fun _ => .bl b
theorem fv_non {j} : PE X (.Constant .none j pos) (FV X.K (fC .none)) := fv_c pe_non fun _ => .non
theorem fv_str {x : Str} {j} : PE X (.Constant (.str x) j pos) (FV X.K (fC (.str x))) := fv_c pe_str fun _ => .str x

/-! ### argument lists -/
def aNil : Av := fun en => some ([], en)
def aCons (p : Ov) (r : Av) : Av := fun en => match p en with
  | some (h, en1) => (match r en1 with
    | some (hs, en2) => some (h :: hs, en2)
    | none => none)
  | none => none
theorem fa_nil : PA X [] (FA X.K aNil) := pa_imp pa_nil fun σ H Q ⟨G, en, hs, en', S, e1, k⟩ => by
  cases e1
  exact k [] G H (Step.refl S) .nil
theorem fa_cons {es : List Expr} {p : Ov} {r : Av} (h : PE X e (FO X.K p)) (hr : PA X es (FA X.K r)) (hs : starEach (e :: es) X.env = (false, eval e X.env) :: starEach es X.env := by rfl) : PA X (e :: es) (FA X.K (aCons p r)) :=
  pa_imp (pa_cons h hr hs) fun σ H Q ⟨G, en, hs, en', S, e1, k⟩ => by
    unfold aCons at e1
    split at e1
    · rename_i h1 en1 e2
      split at e1
      · rename_i hs2 en2 e3
        cases e1
        refine ⟨G, en, _, _, S, e2, fun v G1 H1 T1 r1 => ⟨G1, en1, _, _, T1.sr, e3, fun vs G2 H2 T2 r2 => k _ G2 H2 (T1.trans T2) (.cons (r1.step T2) r2)⟩⟩
      · cases e1
    · cases e1
/-- values that are kept: all shared -/
abbrev Lv := En → Option (List D × En)
def FL (K : PySem.W.Frag) (f : Lv) : TA := fun σ H Q => ∃ G en ds en', SR K G H en σ ∧ f en = some (ds, en') ∧ ∀ vs G' H', Step K en en' σ G H G' H' → Reps K G' vs ds → Q vs H'
def lNil : Lv := fun en => some ([], en)
def lCons (p : Vv) (r : Lv) : Lv := fun en => match p en with
  | some (d, en1) => (match r en1 with
    | some (ds, en2) => some (d :: ds, en2)
    | none => none)
  | none => none
theorem fl_nil : PA X [] (FL X.K lNil) := pa_imp pa_nil fun σ H Q ⟨G, en, hs, en', S, e1, k⟩ => by
  cases e1
  exact k [] G H (Step.refl S) .nil
theorem fl_cons {es : List Expr} {p : Vv} {r : Lv} (h : PE X e (FV X.K p)) (hr : PA X es (FL X.K r)) (hs : starEach (e :: es) X.env = (false, eval e X.env) :: starEach es X.env := by rfl) : PA X (e :: es) (FL X.K (lCons p r)) :=
  pa_imp (pa_cons h hr hs) fun σ H Q ⟨G, en, hs, en', S, e1, k⟩ => by
    unfold lCons at e1
    split at e1
    · rename_i h1 en1 e2
      split at e1
      · rename_i hs2 en2 e3
        cases e1
        refine ⟨G, en, _, _, S, e2, fun v G1 H1 T1 r1 => ⟨G1, en1, _, _, T1.sr, e3, fun vs G2 H2 T2 r2 => k _ G2 H2 (T1.trans T2) (.cons (r1.mono T2.ext.g) r2)⟩⟩
      · cases e1
    · cases e1

/-! ### displays -/
def fTup (r : Lv) : Vv := fun en => match r en with
  | some (ds, en') => if ds.length ≤ sizeLine then some (.tuple ds, en') else none
  | none => none
def fLst (r : Lv) : Ev := fun en => match r en with
  | some (ds, en') => if ds.length ≤ sizeLine then some (.list ds, true, en') else none
  | none => none
/-- a tuple that is made, its exact object told -/
def tTupZ (t : TA) : TE := fun σ H Q => t σ H fun xs H1 => xs.length ≤ sizeLine ∧ ∀ p o, H1 p = none → o.dict = none → Q (.ref p) (upd H1 p (.frz o (.tup xs)))
theorem inv_tupZ {pins : List (Addr × Obj)} {σ : St} {H : Hp} {s : Shared} {xs : List V} {us : List Value} (I : Inv X pins σ H s) (r : Vals xs us) (hz : xs.length ≤ sizeLine) :
    Inv X pins σ (upd H s.heap.objs.size (.frz { cls := .type "tuple", data := .seq us.toArray } (.tup xs))) { s with heap := s.heap.push { cls := .type "tuple", data := .seq us.toArray } } :=
  I.laid (t' := s.toks) (fun b u e => Heap.get?_push_of_some _ e) (Nat.le_refl _) ⟨Heap.get?_push_size _ rfl, hz, us, r, ⟨_, Heap.get?_push_size _ rfl, rfl, _, rfl⟩⟩
theorem pe_tupZ {es : List Expr} {t : TA} {x1} (h : PA X es t) : PE X (.Tuple es x1 pos) (tTupZ t) := ⟨fun pins s σ H Q I hq =>
  wpAny_Tuple_spliced (thn (h.run pos pins s σ H _ I hq) fun us s1 ⟨xs, H1, I1, r, z, q⟩ => ⟨by rw [← r.length]; exact z, .ref _, _, inv_tupZ I1 r z, rfl, q _ _ (I1.hok.fresh (Nat.le_refl _)) rfl⟩)⟩
theorem fv_tup {es : List Expr} {r : Lv} {x1} (h : PA X es (FL X.K r)) : PE X (.Tuple es x1 pos) (FV X.K (fTup r)) := pe_imp (pe_tupZ h) fun σ H Q ⟨G, en, d, en', S, e1, k⟩ => by
  unfold fTup at e1
  split at e1
  · rename_i ds en2 e2
    split at e1
    · rename_i hl
      cases e1
      refine ⟨G, en, _, _, S, e2, fun vs G1 H1 T r => ⟨by rw [r.length]; exact hl, fun p o hp ho => ?_⟩⟩
      have N := New.shd (o := .frz o (.tup vs)) T.sr.sub hp
      exact k _ _ _ (T.trans (N.step T.sr)) (.tup (.inl ⟨o, upd_same, ho⟩) (r.mono N.ext.g))
    · cases e1
  · cases e1
theorem fe_lst {es : List Expr} {r : Lv} (h : PA X es (FL X.K r)) : PE X (.List es pos) (FE X.K (fLst r)) := pe_imp (pe_lst h) fun σ H Q ⟨G, en, d, b, en', S, e1, k⟩ => by
  unfold fLst at e1
  split at e1
  · rename_i ds en2 e2
    split at e1
    · rename_i hl
      cases e1
      refine ⟨G, en, _, _, S, e2, fun vs G1 H1 T r => ⟨by rw [r.length]; exact hl, fun p hp => ?_⟩⟩
      have N := New.own (o := .lst vs) T.sr.sub hp
      refine k _ _ _ (T.trans (N.step T.sr)) ?_
      exact Fresh.res' T (Fresh.new (o := .lst vs) T.sr.sub hp (.lst r))
    · cases e1
  · cases e1
end
end Fx
/-! Fx2: operators, calls, tests. -/
namespace Fx
open PySem PySem.Spec L2
/-- from what is asked of the data to what the rule asks -/
def Op1 (K : PySem.W.Frag) (r : V → Hp → VK → Prop) (g : D → Option (D × Bool)) : Prop := ∀ x d z b G H Q, Same G H → Use K G H x d → g d = some (z, b) → (∀ v G' H', New G H G' H' → Fresh K H G' H' v z b → Q v H') → r x H Q
def Op2 (K : PySem.W.Frag) (r : R2) (g : D → D → Option (D × Bool)) : Prop := ∀ x y d e z b G H Q, Same G H → Use K G H x d → Use K G H y e → g d e = some (z, b) → (∀ v G' H', New G H G' H' → Fresh K H G' H' v z b → Q v H') → r x y H Q
def OpN (K : PySem.W.Frag) (r : List V → Hp → VK → Prop) (g : List D → Option (D × Bool)) : Prop := ∀ vs ds z b G H Q, Same G H → Uses K G H vs ds → g ds = some (z, b) → (∀ v G' H', New G H G' H' → Fresh K H G' H' v z b → Q v H') → r vs H Q

def f1 (p : Ov) (g : D → Option (D × Bool)) : Ev := fun en => (p en).bind fun x => (x.1.late x.2).bind fun d => (g d).map fun z => (z.1, z.2, x.2)
def f2 (p q : Ov) (g : D → D → Option (D × Bool)) : Ev := fun en => (p en).bind fun x => (q x.2).bind fun y => (x.1.late y.2).bind fun d => (y.1.late y.2).bind fun e => (g d e).map fun z => (z.1, z.2, y.2)
def fN (a : Av) (g : List D → Option (D × Bool)) : Ev := fun en => (a en).bind fun x => (lates x.2 x.1).bind fun ds => (g ds).map fun z => (z.1, z.2, x.2)
section
variable {X : Cx} {a b e : Expr} {pos : Pos} {K : PySem.W.Frag}
theorem t1_of {r : V → Hp → VK → Prop} {p : Ov} {g : D → Option (D × Bool)} (o : Op1 K r g) {σ : St} {H : Hp} {Q : VK} (h : FE K (f1 p g) σ H Q) : tUn r (FO K p) σ H Q := by
  obtain ⟨G, en, z, b, en', S, e1, k⟩ := h
  obtain ⟨⟨x, en1⟩, p1, e2⟩ := Option.bind_eq_some_iff.mp e1
  obtain ⟨d, p3, e4⟩ := Option.bind_eq_some_iff.mp e2
  obtain ⟨⟨z', b'⟩, p5, e6⟩ := Option.map_eq_some_iff.mp e4
  cases e6
  refine ⟨G, en, x, en1, S, p1, fun v G1 H1 T1 r1 => ?_⟩
  exact o v d _ _ G1 H1 Q T1.sr.sub (r1.use T1.sr p3) p5 fun v G' H' N F => k v G' H' (T1.trans (N.step T1.sr)) (F.res' T1)
theorem t2_of {r : R2} {p q : Ov} {g : D → D → Option (D × Bool)} (o : Op2 K r g) {σ : St} {H : Hp} {Q : VK} (h : FE K (f2 p q g) σ H Q) : tOp r (FO K p) (FO K q) σ H Q := by
  obtain ⟨G, en, z, b, en', S, e1, k⟩ := h
  obtain ⟨⟨x, en1⟩, p1, e2⟩ := Option.bind_eq_some_iff.mp e1
  obtain ⟨⟨y, en2⟩, p2, e3⟩ := Option.bind_eq_some_iff.mp e2
  obtain ⟨d, p3, e4⟩ := Option.bind_eq_some_iff.mp e3
  obtain ⟨e, p4, e5⟩ := Option.bind_eq_some_iff.mp e4
  obtain ⟨⟨z', b'⟩, p5, e6⟩ := Option.map_eq_some_iff.mp e5
  cases e6
  refine ⟨G, en, x, en1, S, p1, fun v G1 H1 T1 r1 => ⟨G1, en1, y, en2, T1.sr, p2, fun w G2 H2 T2 r2 => ?_⟩⟩
  exact o v w d e _ _ G2 H2 Q T2.sr.sub ((r1.step T2).use T2.sr p3) (r2.use T2.sr p4) p5 fun v G' H' N F => k v G' H' ((T1.trans T2).trans (N.step T2.sr)) (F.res' (T1.trans T2))
theorem tN_of {r : List V → Hp → VK → Prop} {a : Av} {g : List D → Option (D × Bool)} (o : OpN K r g) {σ : St} {H : Hp} {Q : VK} (h : FE K (fN a g) σ H Q) : tCB r (FA K a) σ H Q := by
  obtain ⟨G, en, z, b, en', S, e1, k⟩ := h
  obtain ⟨⟨x, en1⟩, p1, e2⟩ := Option.bind_eq_some_iff.mp e1
  obtain ⟨ds, p3, e4⟩ := Option.bind_eq_some_iff.mp e2
  obtain ⟨⟨z', b'⟩, p5, e6⟩ := Option.map_eq_some_iff.mp e4
  cases e6
  refine ⟨G, en, x, en1, S, p1, fun v G1 H1 T1 r1 => ?_⟩
  exact o v ds _ _ G1 H1 Q T1.sr.sub (r1.uses T1.sr p3) p5 fun v G' H' N F => k v G' H' (T1.trans (N.step T1.sr)) (F.res' T1)
theorem fe_op {op : Operator} {r : R2} {p q : Ov} {g : D → D → Option (D × Bool)} (o : Op2 X.K r g) (ho : OpR X (binaryOp op) r) (ha : PE X a (FO X.K p)) (hb : PE X b (FO X.K q)) : PE X (.BinOp a op b pos) (FE X.K (f2 p q g)) :=
  pe_imp (pe_op ho ha hb) fun _ _ _ h => t2_of o h
theorem fe_un {op : UnaryOp} {r : V → Hp → VK → Prop} {p : Ov} {g : D → Option (D × Bool)} (o : Op1 X.K r g) (ho : UnR X (unaryOp op) r) (ha : PE X a (FO X.K p)) : PE X (.UnaryOp op a pos) (FE X.K (f1 p g)) :=
  pe_imp (pe_un ho ha) fun _ _ _ h => t1_of o h
theorem fe_cmp {op : CmpOp} {r : R2} {p q : Ov} {g : D → D → Option (D × Bool)} (o : Op2 X.K r g) (ho : OpR X (compareOp op) r) (ha : PE X a (FO X.K p)) (hb : PE X b (FO X.K q)) (hm : behindInMarks op b = false) : PE X (.Compare a [op] [b] pos) (FE X.K (f2 p q g)) :=
  pe_imp (pe_cmpR ho ha hb hm) fun _ _ _ h => t2_of o h
theorem fe_ix {r : R2} {p q : Ov} {g : D → D → Option (D × Bool)} (o : Op2 X.K r g) (ho : IxR X r) (ha : PE X a (FO X.K p)) (hb : PE X b (FO X.K q)) (hs : PlainIx b) : PE X (.Subscript a b pos) (FE X.K (f2 p q g)) :=
  pe_imp (pe_ix ho ha hb hs) fun _ _ _ h => t2_of o h
theorem fe_callB {x : Str} {p : Pos} {es : List Expr} {id : String} {r : List V → Hp → VK → Prop} {l : Av} {g : List D → Option (D × Bool)} (o : OpN X.K r g) (hc : CallR X (.builtin id) r) (hm : X.mg x = none) (ha : PA X (e :: es) (FA X.K l)) (hv : bootBuiltins x = some (.builtin id) := by decide +kernel) (hg : Gl X x := by rfl)
    (hn : x ≠ "__name__" := by decide) (hdb : (x == ("__debug__" : Str)) = false := by decide) (he : starEach (e :: es) X.env = (false, eval e X.env) :: starEach es X.env := by rfl) (hpl : (backTo pos (starEach es X.env)).any (·.1) = false := by rfl) : PE X (.Call (.Name x p) (e :: es) [] pos) (FE X.K (fN l g)) :=
  pe_imp (pe_callB hc hg hm hv ha hn hdb he hpl) fun _ _ _ h => tN_of o h
theorem fe_callTy {x : Str} {p : Pos} {es : List Expr} {T : String} {r : List V → Hp → VK → Prop} {l : Av} {g : List D → Option (D × Bool)} (o : OpN X.K r g) (hc : CallR X (.type T) r) (hm : X.mg x = none) (ha : PA X (e :: es) (FA X.K l)) (hv : bootBuiltins x = some (.type T) := by decide +kernel) (hg : Gl X x := by rfl)
    (hn : x ≠ "__name__" := by decide) (hdb : (x == ("__debug__" : Str)) = false := by decide) (he : starEach (e :: es) X.env = (false, eval e X.env) :: starEach es X.env := by rfl) (hpl : (backTo pos (starEach es X.env)).any (·.1) = false := by rfl) : PE X (.Call (.Name x p) (e :: es) [] pos) (FE X.K (fN l g)) :=
  pe_imp (pe_callTy hc hg hm hv ha hn hdb he hpl) fun _ _ _ h => tN_of o h

/-! ### slices -/
abbrev Pv := En → Option (Option Int × En)
def FP (K : PySem.W.Frag) (f : Pv) : TO := fun σ H Q => ∃ G en o en', SR K G H en σ ∧ f en = some (o, en') ∧ ∀ G' H', Step K en en' σ G H G' H' → Q o H'
def pNone : Pv := fun en => some (none, en)
def pInt (p : Ov) : Pv := fun en => (p en).bind fun x => (x.1.late x.2).bind fun d => match d with
  | .int i => some (some i, x.2)
  | _ => none
theorem fp_none : PO X none (FP X.K pNone) := ⟨fun pins s σ H Q I ⟨G, en, o, en', S, e1, k⟩ => by
  cases e1
  exact po_none.run pins s σ H Q I (k G H (Step.refl S))⟩
theorem fp_some {p : Ov} (h : PE X e (FO X.K p)) : PO X (some e) (FP X.K (pInt p)) := ⟨fun pins s σ H Q I ⟨G, en, o, en', S, e1, k⟩ => by
  refine (po_some h).run pins s σ H Q I ?_
  obtain ⟨⟨x, en1⟩, p1, e2⟩ := Option.bind_eq_some_iff.mp e1
  obtain ⟨d, p3, e4⟩ := Option.bind_eq_some_iff.mp e2
  refine ⟨G, en, x, en1, S, p1, fun v G1 H1 T1 r1 => ?_⟩
  have u := r1.use T1.sr p3
  cases d <;> first | (cases e4; done) | skip
  rename_i i
  cases e4
  exact ⟨i, u.int, k G1 H1 T1⟩⟩
def OpS (K : PySem.W.Frag) (r : V → Option Int → Option Int → Hp → VK → Prop) (g : D → Option Int → Option Int → Option (D × Bool)) : Prop :=
  ∀ x d l h z b G H Q, Same G H → Use K G H x d → g d l h = some (z, b) → (∀ v G' H', New G H G' H' → Fresh K H G' H' v z b → Q v H') → r x l h H Q
def fSl (p : Ov) (l h : Pv) (g : D → Option Int → Option Int → Option (D × Bool)) : Ev := fun en => (p en).bind fun x => (l x.2).bind fun y => (h y.2).bind fun w => (x.1.late w.2).bind fun d => (g d y.1 w.1).map fun z => (z.1, z.2, w.2)
theorem fe_slice {lo hi : Option Expr} {p2 : Pos} {r : V → Option Int → Option Int → Hp → VK → Prop} {p : Ov} {l h : Pv} {g : D → Option Int → Option Int → Option (D × Bool)} (o : OpS X.K r g) (hr : SlR X r) (he : PE X e (FO X.K p)) (hl : PO X lo (FP X.K l)) (hu : PO X hi (FP X.K h)) :
    PE X (.Subscript e (.Slice lo hi none p2) pos) (FE X.K (fSl p l h g)) := pe_imp (pe_slice hr he hl hu) fun σ H Q ⟨G, en, z, b, en', S, e1, k⟩ => by
  obtain ⟨⟨x, en1⟩, p1, e2⟩ := Option.bind_eq_some_iff.mp e1
  obtain ⟨⟨y, en2⟩, p2, e3⟩ := Option.bind_eq_some_iff.mp e2
  obtain ⟨⟨w, en3⟩, p3, e4⟩ := Option.bind_eq_some_iff.mp e3
  obtain ⟨d, p4, e5⟩ := Option.bind_eq_some_iff.mp e4
  obtain ⟨⟨z', b'⟩, p5, e6⟩ := Option.map_eq_some_iff.mp e5
  cases e6
  refine ⟨G, en, x, en1, S, p1, fun v G1 H1 T1 r1 => ⟨G1, en1, y, en2, T1.sr, p2, fun G2 H2 T2 => ⟨G2, en2, w, en3, T2.sr, p3, fun G3 H3 T3 => ?_⟩⟩⟩
  have T := (T1.trans T2).trans T3
  exact o v d _ _ _ _ G3 H3 Q T3.sr.sub (((r1.step T2).step T3).use T3.sr p4) p5 fun v G' H' N F => k v G' H' (T.trans (N.step T3.sr)) (F.res' T)

/-! ### tests -/
def tB1 (f : Ev) : Tv := fun en => (f en).bind fun x => match x.1 with
  | .bool b => some (b, x.2.2)
  | _ => none
theorem res_bool {G H G1 H1 : Hp} {O O' : Addr → Prop} {v : V} {c b : Bool} (h : Res K O H O' G1 H1 v (.bool c) b) : v = .bl c := by
  cases b with
  | false =>
    have h : Rep K G1 v (.bool c) := h
    cases h
    rfl
  | true =>
    obtain ⟨a, o, rfl, _, _, _, _, q⟩ := h
    cases q
theorem ft_val {f : Ev} (h : PE X e (FE X.K f)) (he : ∀ whole, isTrue e X.env whole = (do let v ← whole; standAt e.pos; holding [v] (truthy v)) := by intro _; rfl) : PT X e (FT X.K (tB1 f)) :=
  pt_imp (pt_val h he) fun σ H Q ⟨G, en, c, en', S, e1, k⟩ => by
    obtain ⟨⟨d, b, en1⟩, p1, e2⟩ := Option.bind_eq_some_iff.mp e1
    cases d <;> first | (cases e2; done) | skip
    rename_i c'
    cases e2
    exact ⟨G, en, _, b, _, S, p1, fun v G' H' T r => ⟨c, res_bool (G := G) (H := H) r, k G' H' T⟩⟩
def tNotF (f : Tv) : Tv := fun en => (f en).map fun x => (!x.1, x.2)
def tAndF (f g : Tv) : Tv := fun en => (f en).bind fun x => if x.1 = true then g x.2 else some (false, x.2)
def tOrF (f g : Tv) : Tv := fun en => (f en).bind fun x => if x.1 = true then some (true, x.2) else g x.2
theorem ft_not {f : Tv} (h : PT X a (FT X.K f)) : PT X (.UnaryOp .Not a pos) (FT X.K (tNotF f)) := pt_imp (pt_not h) fun σ H Q ⟨G, en, c, en', S, e1, k⟩ => by
  obtain ⟨⟨b, en1⟩, p1, e2⟩ := Option.map_eq_some_iff.mp e1
  cases e2
  exact ⟨G, en, b, en1, S, p1, fun G' H' T => k G' H' T⟩
theorem fw_and1 {f : Tv} (h : PT X a (FT X.K f)) : PW X (.BoolOp .And [a] pos) (FT X.K f) := pw_and1 h
theorem fw_or1 {f : Tv} (h : PT X a (FT X.K f)) : PW X (.BoolOp .Or [a] pos) (FT X.K f) := pw_or1 h
theorem fw_and {rest : List Expr} {f g : Tv} (h : PT X a (FT X.K f)) (hb : PW X (.BoolOp .And (b :: rest) pos) (FT X.K g)) : PW X (.BoolOp .And (a :: b :: rest) pos) (FT X.K (tAndF f g)) :=
  pw_imp (pw_and h hb) fun σ H Q ⟨G, en, c, en', S, e1, k⟩ => by
    obtain ⟨⟨c1, en1⟩, p1, e2⟩ := Option.bind_eq_some_iff.mp e1
    refine ⟨G, en, c1, en1, S, p1, fun G1 H1 T => ?_⟩
    cases c1 with
    | true => exact iteT ⟨G1, en1, c, en', T.sr, e2, fun G2 H2 T2 => k G2 H2 (T.trans T2)⟩
    | false =>
      cases e2
      exact iteF (k G1 H1 T)
theorem fw_or {rest : List Expr} {f g : Tv} (h : PT X a (FT X.K f)) (hb : PW X (.BoolOp .Or (b :: rest) pos) (FT X.K g)) : PW X (.BoolOp .Or (a :: b :: rest) pos) (FT X.K (tOrF f g)) :=
  pw_imp (pw_or h hb) fun σ H Q ⟨G, en, c, en', S, e1, k⟩ => by
    obtain ⟨⟨c1, en1⟩, p1, e2⟩ := Option.bind_eq_some_iff.mp e1
    refine ⟨G, en, c1, en1, S, p1, fun G1 H1 T => ?_⟩
    cases c1 with
    | false => exact iteF ⟨G1, en1, c, en', T.sr, e2, fun G2 H2 T2 => k G2 H2 (T.trans T2)⟩
    | true =>
      cases e2
      exact iteT (k G1 H1 T)
/-- and, or, not of bools as values -/
def fAnd (f g : Ev) : Ev := fun en => (f en).bind fun x => match x.1 with
  | .bool b => if b = true then g x.2.2 else some (.bool false, false, x.2.2)
  | _ => none
def fOr (f g : Ev) : Ev := fun en => (f en).bind fun x => match x.1 with
  | .bool b => if b = true then some (.bool true, false, x.2.2) else g x.2.2
  | _ => none
def fNot (f : Ev) : Ev := fun en => (f en).bind fun x => match x.1 with
  | .bool b => some (.bool (!b), false, x.2.2)
  | _ => none
theorem fe_one {op : BoolOp} {f : Ev} (h : PE X a (FE X.K f)) : PE X (.BoolOp op [a] pos) (FE X.K f) := pe_one h
theorem res_trans {G H G1 H1 G2 H2 : Hp} {en en1 en2 : En} {σ : St} {v : V} {d : D} {b : Bool} (T : Step K en en1 σ G H G1 H1) (r : Res K (OwnA en1 σ) H1 (OwnA en2 σ) G2 H2 v d b) : Res K (OwnA en σ) H (OwnA en2 σ) G2 H2 v d b := by
  cases b with
  | false => exact r
  | true =>
    obtain ⟨a, o, e, q1, q2, q3, q4, q5⟩ := r
    refine ⟨a, o, e, ?_, q2, q3, q4, q5⟩
    rcases q1 with q1 | q1
    · exact .inl (T.ext.t a q1)
    · exact .inr (T.own a q1)
theorem fe_and {rest : List Expr} {f g : Ev} (h : PE X a (FE X.K f)) (hb : PE X (.BoolOp .And (b :: rest) pos) (FE X.K g)) : PE X (.BoolOp .And (a :: b :: rest) pos) (FE X.K (fAnd f g)) :=
  pe_imp (pe_and h hb) fun σ H Q ⟨G, en, z, zb, en', S, e1, k⟩ => by
    obtain ⟨⟨d, b1, en1⟩, p1, e2⟩ := Option.bind_eq_some_iff.mp e1
    cases d <;> first | (cases e2; done) | skip
    rename_i c
    refine ⟨G, en, _, b1, en1, S, p1, fun v G1 H1 T r => ⟨c, res_bool (G := G) (H := H) r, ?_⟩⟩
    cases c with
    | true => exact iteT ⟨G1, en1, z, zb, en', T.sr, e2, fun v G2 H2 T2 r2 => k v G2 H2 (T.trans T2) (res_trans T r2)⟩
    | false =>
      cases e2
      exact iteF (k _ G1 H1 T (Rep.bl false))
theorem fe_or {rest : List Expr} {f g : Ev} (h : PE X a (FE X.K f)) (hb : PE X (.BoolOp .Or (b :: rest) pos) (FE X.K g)) : PE X (.BoolOp .Or (a :: b :: rest) pos) (FE X.K (fOr f g)) :=
  pe_imp (pe_or h hb) fun σ H Q ⟨G, en, z, zb, en', S, e1, k⟩ => by
    obtain ⟨⟨d, b1, en1⟩, p1, e2⟩ := Option.bind_eq_some_iff.mp e1
    cases d <;> first | (cases e2; done) | skip
    rename_i c
    refine ⟨G, en, _, b1, en1, S, p1, fun v G1 H1 T r => ⟨c, res_bool (G := G) (H := H) r, ?_⟩⟩
    cases c with
    | false => exact iteF ⟨G1, en1, z, zb, en', T.sr, e2, fun v G2 H2 T2 r2 => k v G2 H2 (T.trans T2) (res_trans T r2)⟩
    | true =>
      cases e2
      exact iteT (k _ G1 H1 T (Rep.bl true))
theorem fe_not {f : Ev} (h : PE X a (FE X.K f)) : PE X (.UnaryOp .Not a pos) (FE X.K (fNot f)) := pe_imp (pe_not h) fun σ H Q ⟨G, en, z, zb, en', S, e1, k⟩ => by
  obtain ⟨⟨d, b1, en1⟩, p1, e2⟩ := Option.bind_eq_some_iff.mp e1
  cases d <;> first | (cases e2; done) | skip
  rename_i c
  cases e2
  exact ⟨G, en, _, b1, _, S, p1, fun v G1 H1 T r => ⟨c, res_bool (G := G) (H := H) r, k _ G1 H1 T (Rep.bl _)⟩⟩
def fIf (c : Tv) (f g : Ev) : Ev := fun en => (c en).bind fun x => if x.1 = true then f x.2 else g x.2
theorem fe_if {c : Expr} {t : Tv} {f g : Ev} (hc : PT X c (FT X.K t)) (ha : PE X a (FE X.K f)) (hb : PE X b (FE X.K g)) : PE X (.IfExp c a b pos) (FE X.K (fIf t f g)) := pe_imp (pe_ifExp hc ha hb) fun σ H Q ⟨G, en, z, zb, en', S, e1, k⟩ => by
  obtain ⟨⟨c1, en1⟩, p1, e2⟩ := Option.bind_eq_some_iff.mp e1
  refine ⟨G, en, c1, en1, S, p1, fun G1 H1 T => ?_⟩
  cases c1 with
  | true => exact iteT ⟨G1, en1, z, zb, en', T.sr, e2, fun v G2 H2 T2 r2 => k v G2 H2 (T.trans T2) (res_trans T r2)⟩
  | false => exact iteF ⟨G1, en1, z, zb, en', T.sr, e2, fun v G2 H2 T2 r2 => k v G2 H2 (T.trans T2) (res_trans T r2)⟩
/-- a < b < c -/
def fChain (p q : Ov) (g g' : D → D → Option (D × Bool)) (w : Ov) : Ev := fun en => (p en).bind fun x => (q x.2).bind fun y => (x.1.late y.2).bind fun d => (y.1.late y.2).bind fun e => (g d e).bind fun z => match z with
  | (.bool c, false) => if c = true then (w y.2).bind fun u => (y.1.late u.2).bind fun e => (u.1.late u.2).bind fun e' => (g' e e').map fun z => (z.1, z.2, u.2) else some (.bool false, false, y.2)
  | _ => none
theorem fe_chain {c : Expr} {op op' : CmpOp} {r r' : R2} {p q w : Ov} {g g' : D → D → Option (D × Bool)} (o : Op2 X.K r g) (o' : Op2 X.K r' g') (ho : OpR X (compareOp op) r) (ho' : OpR X (compareOp op') r') (ha : PE X a (FO X.K p)) (hb : PE X b (FO X.K q)) (hc : PE X c (FO X.K w))
    (hp : PE X (.Compare a [op, op'] [b, c] pos) (tChain r r' (FO X.K p) (FO X.K q) (FO X.K w))) : PE X (.Compare a [op, op'] [b, c] pos) (FE X.K (fChain p q g g' w)) :=
  pe_imp hp fun σ H Q ⟨G, en, z, zb, en', S, e1, k⟩ => by
    obtain ⟨⟨x, en1⟩, p1, e2⟩ := Option.bind_eq_some_iff.mp e1
    obtain ⟨⟨y, en2⟩, p2, e3⟩ := Option.bind_eq_some_iff.mp e2
    obtain ⟨d, p3, e4⟩ := Option.bind_eq_some_iff.mp e3
    obtain ⟨e, p4, e5⟩ := Option.bind_eq_some_iff.mp e4
    obtain ⟨⟨z1, b1⟩, p5, e6⟩ := Option.bind_eq_some_iff.mp e5
    refine ⟨G, en, x, en1, S, p1, fun v G1 H1 T1 r1 => ⟨G1, en1, y, en2, T1.sr, p2, fun u G2 H2 T2 r2 => ?_⟩⟩
    cases b1 with
    | true => cases z1 <;> cases e6
    | false =>
      cases z1 <;> first | (cases e6; done) | skip
      rename_i c1
      have T12 := T1.trans T2
      refine o v u d e _ _ G2 H2 _ T2.sr.sub ((r1.step T2).use T2.sr p3) (r2.use T2.sr p4) p5 fun v3 G3 H3 N F => ?_
      have T3 := N.step T2.sr
      refine ⟨c1, res_bool (G := G) (H := H2) F, ?_⟩
      cases c1 with
      | false =>
        cases e6
        exact iteF (k _ G3 H3 (T12.trans T3) (Rep.bl false))
      | true =>
        obtain ⟨⟨u1, en4⟩, q1, f2⟩ := Option.bind_eq_some_iff.mp (show ((w en2).bind fun u => (y.late u.2).bind fun e => (u.1.late u.2).bind fun e' => (g' e e').map fun z => (z.1, z.2, u.2)) = some (z, zb, en') from e6)
        obtain ⟨e8, q2, f3⟩ := Option.bind_eq_some_iff.mp f2
        obtain ⟨e9, q3, f4⟩ := Option.bind_eq_some_iff.mp f3
        obtain ⟨⟨z', b'⟩, p7, e10⟩ := Option.map_eq_some_iff.mp f4
        cases e10
        refine iteT ⟨G3, en2, u1, en4, T3.sr, q1, fun v4 G4 H4 T4 r4 => ?_⟩
        have T := (T12.trans T3).trans T4
        exact o' u v4 e8 e9 _ _ G4 H4 Q T4.sr.sub (((r2.step T3).step T4).use T4.sr q2) (r4.use T4.sr q3) p7 fun v G' H' N F => k v G' H' (T.trans (N.step T4.sr)) (F.res' T)
end
end Fx
/-! Fx3: stores, calls of own defs, statements. -/
namespace Fx
open PySem PySem.Spec L2
section
variable {K : PySem.W.Frag} {G H G1 H1 G2 H2 : Hp} {en en1 en2 : En} {σ σ1 : St}
theorem set_at {j : Nat} {x : Option (D × Fl)} {i : Nat} {y : Option (D × Fl)} (h : (en.set j x)[i]? = some y) : (i = j ∧ x = y ∧ j < en.length) ∨ (i ≠ j ∧ en[i]? = some y) := by
  by_cases hi : i = j
  · subst hi
    by_cases hl : i < en.length
    · rw [List.getElem?_set_self hl] at h
      exact .inl ⟨rfl, Option.some.inj h, hl⟩
    · rw [List.getElem?_eq_none (by simpa using hl)] at h
      cases h
  · rw [List.getElem?_set_ne (Ne.symm hi)] at h
    exact .inr ⟨hi, h⟩
/-- the object of slot j is written -/
theorem SR.write {j : Nat} {dw dw' : D} {f : Fl} {a : Addr} {o' : HO} (S : SR K G H en σ) (e : en[j]? = some (some (dw, f))) (hf : f ≠ .sh) (s : σ[j]? = some (some (.ref a))) (E : Ext (fun b => b = a) G H G1 H1) (sub : Same G1 H1) (g : G1 a = none) (h : H1 a = some o') (r : RepO K G1 o' dw') :
    Step K en (en.set j (some (dw', f))) σ G H G1 H1 := by
  have me : OwnA en σ a := ⟨j, dw, f, e, hf, s⟩
  have hj : j < en.length := (List.getElem?_eq_some_iff.mp e).1
  have back : ∀ (i : Nat) (d : D) (g : Fl), (en.set j (some (dw', f)))[i]? = some (some (d, g)) → ∃ d0, en[i]? = some (some (d0, g)) := fun i d g q => by
    rcases set_at q with ⟨rfl, q1, _⟩ | ⟨_, q1⟩
    · cases q1
      exact ⟨dw, e⟩
    · exact ⟨d, q1⟩
  refine ⟨E.weak fun b u z _ => by rw [z]; exact me, ⟨sub, by simpa using S.len, fun i d q => ?_, fun i d f' q n => ?_, fun i k d d2 f1 f2 b q1 n1 q2 n2 => ?_⟩, fun b q => ?_, fun i d q => ?_⟩
  · rcases set_at q with ⟨rfl, q1, _⟩ | ⟨_, q1⟩
    · cases q1
      exact absurd rfl hf
    · obtain ⟨v, e1, e2⟩ := S.shd i d q1
      exact ⟨v, e1, e2.mono E.g⟩
  · rcases set_at q with ⟨rfl, q1, _⟩ | ⟨hi, q1⟩
    · cases q1
      exact ⟨a, o', s, g, h, r⟩
    · obtain ⟨b, u, e1, e2, e3, e4⟩ := S.own i d f' q1 n
      have hb : b ≠ a := fun z => by
        subst z
        exact hi (S.sep i j d dw f' f b q1 n e hf e1 s)
      exact ⟨b, u, e1, E.n b u e3 hb e2, E.h b u e3 hb, e4.mono E.g⟩
  · obtain ⟨e1, q1⟩ := back i d f1 q1
    obtain ⟨e2, q2⟩ := back k d2 f2 q2
    exact S.sep i k _ _ f1 f2 b q1 n1 q2 n2
  · obtain ⟨i, d, g', q1, n, q2⟩ := q
    obtain ⟨d0, q1⟩ := back i d g' q1
    exact ⟨i, d0, g', q1, n, q2⟩
  · by_cases hi : i = j
    · subst hi
      rw [e] at q
      cases q
      exact ⟨dw', by rw [List.getElem?_set_self hj]⟩
    · exact ⟨d, by rw [List.getElem?_set_ne (Ne.symm hi)]; exact q⟩
/-- may slot i be stored into -/
def free1 (en : En) (i : Nat) : Bool := match en[i]? with
  | some (some (_, .lent)) => false
  | _ => true
def flag (b : Bool) : Fl := if b then .own else .sh
/-- a value is stored into slot i -/
theorem StepS.store {en0 : En} {σ0 : St} {G0 H0 : Hp} {i : Nat} {v : V} {d : D} {b : Bool} (T : StepS K en0 σ0 G0 H0 en σ G H) (hl : free1 en i = true) (r : Res K (OwnA en0 σ0) H0 (OwnA en σ) G H v d b) :
    StepS K en0 σ0 G0 H0 (en.set i (some (d, flag b))) (σ.set i (some v)) G H := by
  have S := T.sr
  have sσ : ∀ {k : Nat} {w : Option V}, k ≠ i → (σ.set i (some v))[k]? = some w → σ[k]? = some w := fun {k w} hk q => by rw [List.getElem?_set_ne (Ne.symm hk)] at q; exact q
  have sv : ∀ {k : Nat}, k = i → i < en.length → (σ.set i (some v))[k]? = some (some v) := fun {k} hk q => by rw [hk, List.getElem?_set_self (by rw [← S.len]; exact q)]
  have keep : ∀ {k : Nat} {w : Option V}, k ≠ i → σ[k]? = some w → (σ.set i (some v))[k]? = some w := fun {k w} hk q => by rw [List.getElem?_set_ne (Ne.symm hk)]; exact q
  have old : ∀ (k : Nat) (d2 : D) (f : Fl) (x : Addr), k ≠ i → en[k]? = some (some (d2, f)) → f ≠ .sh → (σ.set i (some v))[k]? = some (some (.ref x)) → OwnA en σ x := fun k d2 f x hk q n q2 => ⟨k, d2, f, q, n, sσ hk q2⟩
  have neu : ∀ (k : Nat) (d2 : D) (f : Fl) (x : Addr), k = i → (some (d, flag b) : Option (D × Fl)) = some (d2, f) → i < en.length → f ≠ .sh → (σ.set i (some v))[k]? = some (some (.ref x)) → (H0 x = none ∨ OwnA en0 σ0 x) ∧ ¬ OwnA en σ x ∧ ∃ o, H x = some o ∧ G x = none ∧ RepO K G o d2 := by
    intro k d2 f x hk q3 hL n q2
    rw [sv hk hL] at q2
    cases b with
    | false =>
      cases q3
      exact absurd rfl n
    | true =>
      obtain ⟨a, o, e, h1, h2, h3, h4, h5⟩ := r
      cases q3
      rw [e] at q2
      cases q2
      exact ⟨h1, h2, o, h3, h4, h5⟩
  refine ⟨T.ext, ⟨S.sub, by simpa using S.len, fun k d2 q => ?_, fun k d2 f q n => ?_, fun k l d2 d3 f g x q1 n1 q2 n2 s1 s2 => ?_⟩, fun x q => ?_, fun k d2 q => ?_⟩
  · rcases set_at q with ⟨hk, q1, hL⟩ | ⟨hk, q1⟩
    · cases b with
      | true => cases q1
      | false =>
        cases q1
        exact ⟨v, sv hk hL, r⟩
    · obtain ⟨w, e1, e2⟩ := S.shd k d2 q1
      exact ⟨w, keep hk e1, e2⟩
  · rcases set_at q with ⟨hk, q1, hL⟩ | ⟨hk, q1⟩
    · cases b with
      | false =>
        cases q1
        exact absurd rfl n
      | true =>
        obtain ⟨a, o, e, _, _, h3, h4, h5⟩ := r
        cases q1
        exact ⟨a, o, by rw [sv hk hL, e], h4, h3, h5⟩
    · obtain ⟨a, o, e1, e2, e3, e4⟩ := S.own k d2 f q1 n
      exact ⟨a, o, keep hk e1, e2, e3, e4⟩
  · rcases set_at q1 with ⟨hk, q3, hL⟩ | ⟨hk, q3⟩
    · rcases set_at q2 with ⟨hl2, _, _⟩ | ⟨hl2, q4⟩
      · rw [hk, hl2]
      · exact ((neu k d2 f x hk q3 hL n1 s1).2.1 (old l d3 g x hl2 q4 n2 s2)).elim
    · rcases set_at q2 with ⟨hl2, q4, hL⟩ | ⟨hl2, q4⟩
      · exact ((neu l d3 g x hl2 q4 hL n2 s2).2.1 (old k d2 f x hk q3 n1 s1)).elim
      · exact S.sep k l d2 d3 f g x q3 n1 q4 n2 (sσ hk s1) (sσ hl2 s2)
  · obtain ⟨k, d2, f, q1, n, q2⟩ := q
    rcases set_at q1 with ⟨hk, q3, hL⟩ | ⟨hk, q3⟩
    · exact (neu k d2 f x hk q3 hL n q2).1.symm
    · exact T.own x (old k d2 f x hk q3 n q2)
  · obtain ⟨⟨d', e1⟩, e2⟩ := T.lent k d2 q
    have hk : k ≠ i := fun z => by
      subst z
      unfold free1 at hl
      rw [e1] at hl
      cases hl
    exact ⟨⟨d', by rw [List.getElem?_set_ne (Ne.symm hk)]; exact e1⟩, by rw [List.getElem?_set_ne (Ne.symm hk)]; exact e2⟩
/-- who is another one stays nobody's -/
theorem own_store {i : Nat} {v : V} {d : D} {f : Fl} {x : Addr} (S : SR K G H en σ) (h : OwnA (en.set i (some (d, f))) (σ.set i (some v)) x) : v = .ref x ∨ OwnA en σ x := by
  obtain ⟨k, d2, g, q1, n, q2⟩ := h
  rcases set_at q1 with ⟨hk, _, hL⟩ | ⟨hk, q3⟩
  · rw [hk, List.getElem?_set_self (by rw [← S.len]; exact hL)] at q2
    cases q2
    exact .inl rfl
  · rw [List.getElem?_set_ne (Ne.symm hk)] at q2
    exact .inr ⟨k, d2, g, q3, n, q2⟩
theorem resS {G3 H3 : Hp} {en2 : En} {σ2 : St} {v : V} {d : D} {b : Bool} (T : StepS K en σ G H en1 σ1 G1 H1) (r : Res K (OwnA en1 σ1) H1 (OwnA en2 σ2) G3 H3 v d b) : Res K (OwnA en σ) H (OwnA en2 σ2) G3 H3 v d b := by
  cases b with
  | false => exact r
  | true =>
    obtain ⟨a, o, e, q1, q2, q3, q4, q5⟩ := r
    refine ⟨a, o, e, ?_, q2, q3, q4, q5⟩
    rcases q1 with q1 | q1
    · exact .inl (T.ext.t a q1)
    · exact (T.own a q1).symm
end

/-! ### own defs -/
/-- a def that writes none of its arguments -/
def sp0 (K : PySem.W.Frag) (np : Nat) (F : List D → Option (D × Bool)) : Sp := fun vs H Q _ => ∃ G ds d b, Same G H ∧ Reps K G vs ds ∧ ds.length = np ∧ F ds = some (d, b) ∧ ∀ v G' H', New G H G' H' → Fresh K H G' H' v d b → Q v H'
/-- a def that writes its first argument -/
def spW (K : PySem.W.Frag) (np : Nat) (F : D → List D → Option (D × Bool × D)) : Sp := fun vs H Q _ => ∃ G a o dw ws ds d b dw', vs = .ref a :: ws ∧ Same G H ∧ G a = none ∧ H a = some o ∧ RepO K G o dw ∧ Reps K G ws ds ∧ ds.length = np ∧ F dw ds = some (d, b, dw') ∧
  ∀ v G' H' o', Ext (fun x => x = a) G H G' H' → Same G' H' → G' a = none → H' a = some o' → RepO K G' o' dw' → Res K (fun x => x = a) H (fun x => x = a) G' H' v d b → Q v H'
def ini (n : Nat) (ds : List D) : En := ds.map (fun d => some (d, Fl.sh)) ++ List.replicate (n - ds.length) none
def mk0 (n : Nat) (g : Sv) (ds : List D) : Option (D × Bool) := (g (ini n ds)).bind fun x => match x.1 with
  | .rt d b => some (d, b)
  | .nx => some (.none, false)
  | _ => none
def lentAt (en : En) (i : Nat) : Option D := match en[i]? with
  | some (some (d, .lent)) => some d
  | _ => none
theorem lentAt_of {en : En} {i : Nat} {d : D} (h : lentAt en i = some d) : en[i]? = some (some (d, .lent)) := by
  unfold lentAt at h
  split at h
  · rename_i d' q
    cases h
    exact q
  · cases h
def mkW (n : Nat) (g : Sv) (dw : D) (ds : List D) : Option (D × Bool × D) := (g (some (dw, Fl.lent) :: ini (n - 1) ds)).bind fun x => (lentAt x.2 0).bind fun dw' => match x.1 with
  | .rt d b => some (d, b, dw')
  | .nx => some (.none, false, dw')
  | _ => none
def fCall (np : Nat) (l : Lv) (F : List D → Option (D × Bool)) : Ev := fun en => (l en).bind fun x => if x.1.length = np then (F x.1).map fun z => (z.1, z.2, x.2) else none
def isOwn (en : En) (j : Nat) : Bool := match en[j]? with
  | some (some (_, .own)) => true
  | some (some (_, .lent)) => true
  | _ => false
theorem isOwn_of {en : En} {j : Nat} (h : isOwn en j = true) : ∃ d f, en[j]? = some (some (d, f)) ∧ f ≠ .sh := by
  unfold isOwn at h
  split at h
  · rename_i d q
    exact ⟨d, _, q, by decide⟩
  · rename_i d q
    exact ⟨d, _, q, by decide⟩
  · cases h
def fCallW (np j : Nat) (l : Lv) (F : D → List D → Option (D × Bool × D)) : Ev := fun en => if isOwn en j = true then (l en).bind fun x => match x.2[j]? with
  | some (some (dw, f)) => if f = .sh then none else if x.1.length = np then (F dw x.1).map fun z => (z.1, z.2.1, x.2.set j (some (z.2.2, f))) else none
  | _ => none
  else none
theorem getSlot {en : En} {j : Nat} {α : Type} {k : D → Fl → Option α} {z : α} (h : (match en[j]? with
  | some (some (dw, f)) => k dw f
  | _ => none) = some z) : ∃ dw f, en[j]? = some (some (dw, f)) ∧ k dw f = some z := by
  split at h
  · rename_i dw f q
    exact ⟨dw, f, q, h⟩
  · cases h
theorem ite_some {α : Type} {c : Prop} [Decidable c] {a : Option α} {z : α} (h : (if c then a else none) = some z) : c ∧ a = some z := by
  by_cases hc : c
  · rw [if_pos hc] at h
    exact ⟨hc, h⟩
  · rw [if_neg hc] at h
    cases h
theorem ite_none {α : Type} {c : Prop} [Decidable c] {a : Option α} {z : α} (h : (if c then none else a) = some z) : ¬ c ∧ a = some z := by
  by_cases hc : c
  · rw [if_pos hc] at h
    cases h
  · rw [if_neg hc] at h
    exact ⟨hc, h⟩
section
variable {X : Cx} {k : Nat} {f : Addr} {fd : FuncData} {ps : List Str} {np : Nat} {x : Str} {p pos : Pos} {e : Expr} {es : List Expr}
theorem fe_call {l : Lv} {F0 : List D → Option (D × Bool)} (F : FnOk X.prog X.w X.K X.mg X.base CX0 k f fd ps (sp0 X.K np F0)) (hr : Room k X.A) (hm : X.mg x = some (.ref f)) (hk : PySem.W.keepIn X.K (.ref f) = true) (hb : Binds X.K fd ps []) (ha : PA X (e :: es) (FL X.K l))
    (hg : Gl X x := by rfl) (hdb : (x == ("__debug__" : Str)) = false := by decide) (he : starEach (e :: es) X.env = (false, eval e X.env) :: starEach es X.env := by rfl) (hpl : (backTo pos (starEach es X.env)).any (·.1) = false := by rfl) : PE X (.Call (.Name x p) (e :: es) [] pos) (FE X.K (fCall np l F0)) :=
  pe_imp (pe_call F hr hg hm hk hb .nil (E := fun _ _ _ => False) (fun _ _ _ _ _ _ _ z => z.elim) ha hdb he hpl) fun σ H Q ⟨G, en, d, b, en', S, e1, k⟩ => by
    obtain ⟨⟨ds, en1⟩, p1, e2⟩ := Option.bind_eq_some_iff.mp e1
    obtain ⟨hl, e3⟩ := ite_some e2
    obtain ⟨⟨z, b'⟩, p5, e6⟩ := Option.map_eq_some_iff.mp e3
    cases e6
    refine ⟨G, en, ds, en1, S, p1, fun vs G1 H1 T r => ?_⟩
    exact ⟨G1, ds, _, _, T.sr.sub, by rw [List.append_nil]; exact r, hl, p5, fun v G' H' N F => k v G' H' (T.trans (N.step T.sr)) (F.res' T)⟩
/-- f(): no argument -/
theorem fe_call0 {F0 : List D → Option (D × Bool)} (F : FnOk X.prog X.w X.K X.mg X.base CX0 k f fd ps (sp0 X.K np F0)) (hr : Room k X.A) (hm : X.mg x = some (.ref f)) (hk : PySem.W.keepIn X.K (.ref f) = true) (hb : Binds X.K fd ps [])
    (hg : Gl X x := by rfl) (hdb : (x == ("__debug__" : Str)) = false := by decide) : PE X (.Call (.Name x p) [] [] pos) (FE X.K (fCall np lNil F0)) :=
  pe_imp (pe_call0 F hr hg hm hk hb .nil (E := fun _ _ _ => False) (fun _ _ _ _ _ _ _ z => z.elim) hdb) fun σ H Q ⟨G, en, d, b, en', S, e1, k⟩ => by
    obtain ⟨⟨ds, en1⟩, p1, e2⟩ := Option.bind_eq_some_iff.mp e1
    obtain ⟨hl, e3⟩ := ite_some e2
    obtain ⟨⟨z, b'⟩, p5, e6⟩ := Option.map_eq_some_iff.mp e3
    cases e6
    cases p1
    exact ⟨G, [], _, _, S.sub, .nil, hl, p5, fun v G' H' N F => k v G' H' (N.step S) (F.res S)⟩
theorem fe_callW {l : Lv} {j : Nat} {F0 : D → List D → Option (D × Bool × D)} (F : FnOk X.prog X.w X.K X.mg X.base CX0 k f fd ps (spW X.K np F0)) (hr : Room k X.A) (hm : X.mg x = some (.ref f)) (hk : PySem.W.keepIn X.K (.ref f) = true) (hb : Binds X.K fd ps []) (hw : PE X e (tVar j)) (ha : PA X es (FL X.K l))
    (hg : Gl X x := by rfl) (hdb : (x == ("__debug__" : Str)) = false := by decide) (he : starEach (e :: es) X.env = (false, eval e X.env) :: starEach es X.env := by rfl) (hpl : (backTo pos (starEach es X.env)).any (·.1) = false := by rfl) : PE X (.Call (.Name x p) (e :: es) [] pos) (FE X.K (fCallW np j l F0)) :=
  pe_imp (pe_call F hr hg hm hk hb .nil (E := fun _ _ _ => False) (fun _ _ _ _ _ _ _ z => z.elim) (pa_cons hw ha he) hdb he hpl) fun σ H Q ⟨G, en, d, b, en', S, e1, k⟩ => by
    obtain ⟨h0, e1⟩ := ite_some e1
    obtain ⟨⟨ds, en1⟩, p1, e2⟩ := Option.bind_eq_some_iff.mp e1
    obtain ⟨dw, fl, q1, e3⟩ := getSlot e2
    obtain ⟨hf, e4⟩ := ite_none e3
    obtain ⟨hl, e5⟩ := ite_some e4
    obtain ⟨⟨z, b', dw'⟩, p5, e6⟩ := Option.map_eq_some_iff.mp e5
    cases e6
    obtain ⟨d0, f0, h1, h2⟩ := isOwn_of h0
    obtain ⟨a, o0, q2, _⟩ := S.own j d0 f0 h1 h2
    refine ⟨_, q2, G, en, ds, en1, S, p1, fun vs G1 H1 T r => ?_⟩
    obtain ⟨a', o, s1, s2, s3, s4⟩ := T.sr.own j dw fl q1 hf
    rw [q2] at s1
    cases s1
    refine ⟨G1, a, o, dw, vs, ds, z, b', dw', (List.append_nil _).trans rfl, T.sr.sub, s2, s3, s4, r, hl, p5, fun v G' H' o' E sub g h ro R => ?_⟩
    have W := SR.write T.sr q1 hf q2 E sub g h ro
    refine k v G' H' (T.trans W) ?_
    cases b' with
    | false => exact R
    | true =>
      obtain ⟨c, u, e, w1, w2, w3, w4, w5⟩ := R
      have hn : H1 c = none := w1.resolve_right w2
      refine ⟨c, u, e, .inl (T.ext.t c hn), fun q => ?_, w3, w4, w5⟩
      obtain ⟨y, e7, _⟩ := T.sr.there (W.own c q)
      rw [hn] at e7
      cases e7
end
end Fx
/-! Fx4: statements, loops, bodies of defs. -/
namespace Fx
open PySem PySem.Spec L2
/-! ### blocks -/
def sNx : Sv := fun en => some (.nx, en)
def sSeq (a b : Sv) : Sv := fun en => (a en).bind fun x => match x.1 with
  | .nx => b x.2
  | o => some (o, x.2)
section
variable {X : Cx} {st : Stmt} {rest : List Stmt} {pos : Pos} {e : Expr} {K : PySem.W.Frag}
theorem outR {D : Ends} {G H G1 H1 : Hp} {en en1 en2 : En} {σ σ1 : St} {o : Out} (T : StepS K en σ G H en1 σ1 G1 H1) (h : OutR K D en σ G H en2 o) : OutR K D en1 σ1 G1 H1 en2 o := by
  cases o with
  | nx => exact fun G' H' σ' T' => h G' H' σ' (T.trans T')
  | bk => exact fun G' H' σ' T' => h G' H' σ' (T.trans T')
  | ct => exact fun G' H' σ' T' => h G' H' σ' (T.trans T')
  | rt d b => exact fun v G' H' σ' T' r => h v G' H' σ' (T.trans T') (resS T r)
theorem fs_nil : PSs X [] (FS X.K sNx) := pss_imp pss_nil fun D σ H ⟨G, en, o, en', S, e1, k⟩ => by
  cases e1
  exact k G H σ (StepS.refl S)
theorem fs_cons {a b : Sv} (h1 : PS X st (FS X.K a)) (h2 : PSs X rest (FS X.K b)) : PSs X (st :: rest) (FS X.K (sSeq a b)) := pss_imp (pss_cons h1 h2) fun D σ H ⟨G, en, o, en', S, e1, k⟩ => by
  obtain ⟨⟨o1, en1⟩, p1, e2⟩ := Option.bind_eq_some_iff.mp e1
  cases o1 with
  | nx => exact ⟨G, en, .nx, en1, S, p1, fun G1 H1 σ1 T => ⟨G1, en1, o, en', T.sr, e2, outR T k⟩⟩
  | bk => cases e2; exact ⟨G, en, .bk, _, S, p1, k⟩
  | ct => cases e2; exact ⟨G, en, .ct, _, S, p1, k⟩
  | rt d b => cases e2; exact ⟨G, en, .rt d b, _, S, p1, k⟩
theorem fs_one {a : Sv} (h : PS X st (FS X.K a)) : PSs X [st] (FS X.K a) := pss_one h
def sBreak : Sv := fun en => some (.bk, en)
def sCont : Sv := fun en => some (.ct, en)
theorem fs_pass : PS X (.Pass pos) (FS X.K sNx) := ps_imp ps_pass fun D σ H ⟨G, en, o, en', S, e1, k⟩ => by
  cases e1
  exact k G H σ (StepS.refl S)
theorem fs_break : PS X (.Break pos) (FS X.K sBreak) := ps_imp ps_break fun D σ H ⟨G, en, o, en', S, e1, k⟩ => by
  cases e1
  exact k G H σ (StepS.refl S)
theorem fs_continue : PS X (.Continue pos) (FS X.K sCont) := ps_imp ps_continue fun D σ H ⟨G, en, o, en', S, e1, k⟩ => by
  cases e1
  exact k G H σ (StepS.refl S)
def sExpr (f : Ev) : Sv := fun en => (f en).map fun x => (.nx, x.2.2)
theorem fs_expr {f : Ev} (h : PE X e (FE X.K f)) (hs : swapsWith e none pos.line X.env = pure false := by rfl) : PS X (.Expr e pos) (FS X.K (sExpr f)) := ps_imp (ps_expr h hs) fun D σ H ⟨G, en, o, en', S, e1, k⟩ => by
  obtain ⟨⟨d, b, en1⟩, p1, e2⟩ := Option.map_eq_some_iff.mp e1
  cases e2
  exact ⟨G, en, d, b, en1, S, p1, fun v G1 H1 T _ => k G1 H1 σ T.s⟩
def sRet (f : Ev) : Sv := fun en => (f en).map fun x => (.rt x.1 x.2.1, x.2.2)
theorem fs_ret {f : Ev} (h : PE X e (FE X.K f)) : PS X (.Return (some e) pos) (FS X.K (sRet f)) := ps_imp (ps_ret h) fun D σ H ⟨G, en, o, en', S, e1, k⟩ => by
  obtain ⟨⟨d, b, en1⟩, p1, e2⟩ := Option.map_eq_some_iff.mp e1
  cases e2
  exact ⟨G, en, d, b, en1, S, p1, fun v G1 H1 T r => k v G1 H1 σ T.s r⟩
def sRetN : Sv := fun en => some (.rt .none false, en)
theorem fs_retN : PS X (.Return none pos) (FS X.K sRetN) := ps_imp ps_retN fun D σ H ⟨G, en, o, en', S, e1, k⟩ => by
  cases e1
  exact k _ G H σ (StepS.refl S) Rep.non
/-- return x: what x owns is handed on -/
def sRetX (i : Nat) : Sv := fun en => match en[i]? with
  | some (some (d, .sh)) => some (.rt d false, en)
  | some (some (d, .own)) => some (.rt d true, en.set i none)
  | _ => none
theorem fs_retX {i : Nat} (h : PE X e (tVar i)) : PS X (.Return (some e) pos) (FS X.K (sRetX i)) := ps_imp (ps_ret h) fun D σ H ⟨G, en, o, en', S, e1, k⟩ => by
  unfold sRetX at e1
  split at e1
  · rename_i d q
    cases e1
    obtain ⟨v, s1, s2⟩ := S.shd i d q
    exact ⟨v, s1, k v G H σ (StepS.refl S) s2⟩
  · rename_i d q
    cases e1
    obtain ⟨a, u, s1, s2, s3, s4⟩ := S.own i d .own q (by decide)
    have hi : i < en.length := (List.getElem?_eq_some_iff.mp q).1
    have back : ∀ (j : Nat) (d2 : Fx.D) (f : Fl), (en.set i none)[j]? = some (some (d2, f)) → j ≠ i ∧ en[j]? = some (some (d2, f)) := fun j d2 f w => by
      rcases set_at w with ⟨_, w1, _⟩ | ⟨w1, w2⟩
      · cases w1
      · exact ⟨w1, w2⟩
    refine ⟨_, s1, k _ G H σ ⟨Ext.refl, ⟨S.sub, by simpa using S.len, fun j d2 w => S.shd j d2 (back j d2 _ w).2, fun j d2 f w n => S.own j d2 f (back j d2 f w).2 n, fun j l d2 d3 f g x w1 n1 w2 n2 => S.sep j l d2 d3 f g x (back j d2 f w1).2 n1 (back l d3 g w2).2 n2⟩,
      fun b ⟨j, d2, f, w, n, z⟩ => .inl ⟨j, d2, f, (back j d2 f w).2, n, z⟩, fun j d2 w => ⟨⟨d2, ?_⟩, rfl⟩⟩ ⟨a, u, rfl, .inr ⟨i, d, .own, q, by decide, s1⟩, ?_, s3, s2, s4⟩⟩
    · have hj : j ≠ i := fun z => by
        rw [z, q] at w
        cases w
      rw [List.getElem?_set_ne (Ne.symm hj)]
      exact w
    · rintro ⟨j, d2, f, w, n, z⟩
      obtain ⟨w1, w2⟩ := back j d2 f w
      exact w1 (S.sep j i d2 d f .own a w2 n q (by decide) z s1)
  · cases e1
def sIf (t : Tv) (a b : Sv) : Sv := fun en => (t en).bind fun x => if x.1 = true then a x.2 else b x.2
theorem fs_if {c : Expr} {p q : List Stmt} {t : Tv} {a b : Sv} (hc : PT X c (FT X.K t)) (ha : PSs X p (FS X.K a)) (hb : PSs X q (FS X.K b)) : PS X (.If c p q pos) (FS X.K (sIf t a b)) := ps_imp (ps_if hc ha hb) fun D σ H ⟨G, en, o, en', S, e1, k⟩ => by
  obtain ⟨⟨c1, en1⟩, p1, e2⟩ := Option.bind_eq_some_iff.mp e1
  refine ⟨G, en, c1, en1, S, p1, fun G1 H1 T => ?_⟩
  cases c1 with
  | true => exact iteT ⟨G1, en1, o, en', T.sr, e2, outR T.s k⟩
  | false => exact iteF ⟨G1, en1, o, en', T.sr, e2, outR T.s k⟩
/-! ### stores -/
def sSet (i : Nat) (f : Ev) : Sv := fun en => (f en).bind fun x => if free1 x.2.2 i = true then some (.nx, x.2.2.set i (some (x.1, flag x.2.1))) else none
theorem asg_name {i : Nat} {f : Ev} {D : Ends} {σ : St} {H : Hp} (h : FS K (sSet i f) D σ H) : tAsg (FE K f) (gName i) D σ H := by
  obtain ⟨G, en, o, en', S, e1, k⟩ := h
  obtain ⟨⟨d, b, en1⟩, p1, e2⟩ := Option.bind_eq_some_iff.mp e1
  obtain ⟨hl, e3⟩ := ite_some e2
  cases e3
  exact ⟨G, en, d, b, en1, S, p1, fun v G1 H1 T r => k G1 H1 _ (T.s.store hl r)⟩
theorem fs_set {i : Nat} {x : Str} {f : Ev} {pos' : Pos} (hN : X.N.Nodup) (he : PE X e (FE X.K f)) (hi : X.N[i]? = some x := by rfl) (hx : Loc X.env.scope x := by first | exact .inl rfl | exact .inr rfl) (hs : swapsWith e (some (.Name x pos')) pos.line X.env = pure false := by rfl) (hf : X.fn x = true ∨ X.env.scope.names.lookup x = some .local := by first | exact .inl rfl | exact .inr rfl | assumption) :
    PS X (.Assign [.Name x pos'] e pos) (FS X.K (sSet i f)) := ps_imp (ps_set hN hi hx he hs hf) fun D σ H h => asg_name h
/-- x += e of ints -/
def sAug (i : Nat) (f : Ev) (g : D → D → Option D) : Sv := fun en => (peek en i).bind fun d0 => (f en).bind fun x => if free1 x.2.2 i = true then (g d0 x.1).map fun z => (.nx, x.2.2.set i (some (z, .sh))) else none
/-! ### targets -/
abbrev Gv := D → En → Option En
/-- a step that stores shared values alone -/
structure StepG (K : PySem.W.Frag) (en : En) (σ : St) (G H : Hp) (en' : En) (σ' : St) (G' H' : Hp) : Prop where
  ext : Ext (OwnA en σ) G H G' H'
  sr : SR K G' H' en' σ'
  own : ∀ b, OwnA en' σ' b → OwnA en σ b
  lent : ∀ (i : Nat) (d : D), en[i]? = some (some (d, .lent)) → (∃ d', en'[i]? = some (some (d', .lent))) ∧ σ'[i]? = σ[i]?
theorem StepG.refl {G H : Hp} {en : En} {σ : St} (S : SR K G H en σ) : StepG K en σ G H en σ G H := ⟨Ext.refl, S, fun _ h => h, fun _ d e => ⟨⟨d, e⟩, rfl⟩⟩
theorem StepG.trans {G H G1 H1 G2 H2 : Hp} {en en1 en2 : En} {σ σ1 σ2 : St} (a : StepG K en σ G H en1 σ1 G1 H1) (b : StepG K en1 σ1 G1 H1 en2 σ2 G2 H2) : StepG K en σ G H en2 σ2 G2 H2 :=
  ⟨a.ext.trans b.ext fun x h => .inl (a.own x h), b.sr, fun x h => a.own x (b.own x h), fun i d e => by
    obtain ⟨⟨d', e'⟩, s⟩ := a.lent i d e
    obtain ⟨l, s'⟩ := b.lent i d' e'
    exact ⟨l, s'.trans s⟩⟩
theorem StepG.s {G H G1 H1 : Hp} {en en1 : En} {σ σ1 : St} (a : StepG K en σ G H en1 σ1 G1 H1) : StepS K en σ G H en1 σ1 G1 H1 := ⟨a.ext, a.sr, fun b h => .inl (a.own b h), a.lent⟩
theorem step_g {G H G1 H1 : Hp} {en en1 : En} {σ : St} (a : Step K en en1 σ G H G1 H1) : StepG K en σ G H en1 σ G1 H1 := ⟨a.ext, a.sr, a.own, fun i d e => ⟨a.lent i d e, rfl⟩⟩
theorem StepG.put {G H : Hp} {en : En} {σ : St} {i : Nat} {v : V} {d : D} (S : SR K G H en σ) (hl : free1 en i = true) (r : Rep K G v d) : StepG K en σ G H (en.set i (some (d, .sh))) (σ.set i (some v)) G H := by
  have T := StepS.store (b := false) (StepS.refl S) hl r
  refine ⟨T.ext, T.sr, fun b h => ?_, T.lent⟩
  obtain ⟨j, d2, f, q, n, z⟩ := h
  rcases set_at q with ⟨_, w, _⟩ | ⟨hj, w⟩
  · cases w
    exact absurd rfl n
  · rw [List.getElem?_set_ne (Ne.symm hj)] at z
    exact ⟨j, d2, f, w, n, z⟩
/-- all slots but ts stand -/
def Off (ts : List Nat) (σ σ' : St) : Prop := σ'.length = σ.length ∧ ∀ i, i ∉ ts → σ'[i]? = σ[i]?
/-- what a target is given: any shared value; or a tuple of such, its standing of no matter (a pair that an iterator made) -/
abbrev Given := PySem.W.Frag → Hp → V → D → Prop
def RepP : Given := fun K G v d => ∃ a xs ds, v = .ref a ∧ d = .tuple ds ∧ SqT K G a xs ∧ Reps K G xs ds
def FG (R : Given) (K : PySem.W.Frag) (ts : List Nat) (s : Gv) : TG := fun v σ H Q => ∃ G en d en', SR K G H en σ ∧ R K G v d ∧ s d en = some en' ∧ ∀ σ' G' H', StepG K en σ G H en' σ' G' H' → Off ts σ σ' → Q σ' H'
def FGs (K : PySem.W.Frag) (ts : List Nat) (s : List D → En → Option En) : TGs := fun vs σ H Q => ∃ G en ds en', SR K G H en σ ∧ Reps K G vs ds ∧ s ds en = some en' ∧ ∀ σ' G' H', StepG K en σ G H en' σ' G' H' → Off ts σ σ' → Q σ' H'
theorem pg_imp {t t' : TG} (h : PG X e t) (k : ∀ v σ H Q, t' v σ H Q → t v σ H Q) : PG X e t' := ⟨fun pins s σ H v u Q I r q => h.run pins s σ H v u Q I r (k _ _ _ _ q)⟩
theorem pgs_imp {es : List Expr} {t t' : TGs} (h : PGs X es t) (k : ∀ v σ H Q, t' v σ H Q → t v σ H Q) : PGs X es t' := ⟨fun pins s σ H v u Q I r q => h.run pins s σ H v u Q I r (k _ _ _ _ q)⟩
def gN (i : Nat) : Gv := fun d en => if free1 en i = true then some (en.set i (some (d, .sh))) else none
def gsNil : List D → En → Option En := fun ds en => match ds with
  | [] => some en
  | _ => none
def gsCons (s : Gv) (r : List D → En → Option En) : List D → En → Option En := fun ds en => match ds with
  | d :: ds => (s d en).bind (r ds)
  | _ => none
def gT (n : Nat) (r : List D → En → Option En) : Gv := fun d en => match d with
  | .tuple ds => if ds.length = n then r ds en else none
  | _ => none
theorem fg_g {i : Nat} (h : PG X e (gName i)) : PG X e (FG Rep X.K [i] (gN i)) := pg_imp h fun v σ H Q ⟨G, en, d, en', S, r, e1, k⟩ => by
  obtain ⟨hl, e2⟩ := ite_some e1
  cases e2
  exact k _ G H (StepG.put S hl r) ⟨List.length_set, fun j hj => List.getElem?_set_ne fun z => hj (by rw [z]; exact List.mem_singleton_self _)⟩
theorem fg_name {i : Nat} {x : Str} (hN : X.N.Nodup) (hi : X.N[i]? = some x := by rfl) (hx : Loc X.env.scope x := by first | exact .inl rfl | exact .inr rfl) (hf : X.fn x = true ∨ X.env.scope.names.lookup x = some .local := by first | exact .inl rfl | exact .inr rfl | assumption) : PG X (.Name x pos) (FG Rep X.K [i] (gN i)) :=
  fg_g (pg_name hN hi hx hf)
theorem fgs_nil : PGs X [] (FGs X.K [] gsNil) := pgs_imp pgs_nil fun vs σ H Q ⟨G, en, ds, en', S, r, e1, k⟩ => by
  cases r with
  | nil =>
    cases e1
    exact ⟨rfl, k σ G H (StepG.refl S) ⟨rfl, fun _ _ => rfl⟩⟩
  | cons _ _ => cases e1
theorem fgs_cons {es : List Expr} {s : Gv} {t1 t2 : List Nat} {r : List D → En → Option En} (h1 : PG X e (FG Rep X.K t1 s)) (h2 : PGs X es (FGs X.K t2 r)) (hs : (assignEach (e :: es) X.env).map (·.2) = assign e X.env :: (assignEach es X.env).map (·.2) := by rfl) : PGs X (e :: es) (FGs X.K (t1 ++ t2) (gsCons s r)) :=
  pgs_imp (pgs_cons h1 h2 hs) fun vs σ H Q ⟨G, en, ds, en', S, rr, e1, k⟩ => by
    cases rr with
    | nil => cases e1
    | cons h t =>
      obtain ⟨en1, p1, p2⟩ := Option.bind_eq_some_iff.mp e1
      exact ⟨_, _, rfl, G, en, _, en1, S, h, p1, fun σ1 G1 H1 T k1 => ⟨G1, en1, _, en', T.sr, t.mono T.ext.g, p2, fun σ2 G2 H2 T2 k2 => k σ2 G2 H2 (T.trans T2) ⟨k2.1.trans k1.1, fun i hi => (k2.2 i fun z => hi (List.mem_append_right _ z)).trans (k1.2 i fun z => hi (List.mem_append_left _ z))⟩⟩⟩
theorem fg_pair {es : List Expr} {k1 : Nat} {ts : List Nat} {r : List D → En → Option En} {n : Nat} (hc : X.calm = true) (h : PGs X es (FGs X.K ts r)) (hn : (assignEach es X.env).length = n := by rfl) (hst : (assignEach es X.env).findIdx? (·.1) = none := by rfl) : PG X (.Tuple es k1 pos) (FG RepP X.K ts (gT n r)) :=
  pg_imp (pg_tup hc h hn hst) fun v σ H Q ⟨G, en, d, en', S, ⟨a, xs, ds, e3, e4, h1, h2⟩, e1, k⟩ => by
    subst e4
    obtain ⟨hl, e2⟩ := ite_some (show (if ds.length = n then r ds en else none) = some en' from e1)
    exact ⟨a, xs, e3, seqT S.sub h1, h2.length.trans hl, G, en, ds, en', S, h2, e2, k⟩
theorem fg_tup {es : List Expr} {k1 : Nat} {ts : List Nat} {r : List D → En → Option En} {n : Nat} (hc : X.calm = true) (h : PGs X es (FGs X.K ts r)) (hn : (assignEach es X.env).length = n := by rfl) (hst : (assignEach es X.env).findIdx? (·.1) = none := by rfl) : PG X (.Tuple es k1 pos) (FG Rep X.K ts (gT n r)) :=
  pg_imp (pg_tup hc h hn hst) fun v σ H Q ⟨G, en, d, en', S, rr, e1, k⟩ => by
    cases d <;> first | (cases e1; done) | skip
    rename_i ds
    obtain ⟨hl, e2⟩ := ite_some (show (if ds.length = n then r ds en else none) = some en' from e1)
    cases rr with
    | tup h1 h2 => exact ⟨_, _, rfl, seqT S.sub h1.sq, h2.length.trans hl, G, en, ds, en', S, h2, e2, k⟩
def sAsg (f : Vv) (s : Gv) : Sv := fun en => (f en).bind fun x => (s x.1 x.2).map fun e' => (.nx, e')
theorem fs_asg {tg : Expr} {f : Vv} {ts : List Nat} {s : Gv} (he : PE X e (FV X.K f)) (hg : PG X tg (FG Rep X.K ts s)) (hs : swapsWithSole [tg] e pos.line X.env = pure false := by rfl) (hw : swappedStores [tg] e X.env = pure none := by rfl) (h1 : (assignEach [tg] X.env).map (·.2) = [assign tg X.env] := by rfl) :
    PS X (.Assign [tg] e pos) (FS X.K (sAsg f s)) := ps_imp (ps_asg he hg hs hw h1) fun D σ H ⟨G, en, o, en', S, e1, k⟩ => by
  obtain ⟨⟨d, en1⟩, p1, e2⟩ := Option.bind_eq_some_iff.mp e1
  obtain ⟨en2, p2, e3⟩ := Option.map_eq_some_iff.mp e2
  cases e3
  exact ⟨G, en, d, en1, S, p1, fun v G1 H1 T r => ⟨G1, en1, d, _, T.sr, r, p2, fun σ2 G2 H2 T2 _ => k G2 H2 σ2 (T.s.trans T2.s)⟩⟩

/-! ### while -/
def whileL (t : Tv) (b : Sv) : Nat → Sv
  | 0 => fun _ => none
  | n + 1 => fun en => (t en).bind fun x => if x.1 = true then (b x.2).bind fun y => match y.1 with
    | .nx => whileL t b n y.2
    | .ct => whileL t b n y.2
    | .bk => some (.nx, y.2)
    | .rt d c => some (.rt d c, y.2)
    else some (.nx, x.2)
theorem fs_while {c : Expr} {body : List Stmt} {t : Tv} {b : Sv} {n : Nat} (hp : PassesOwn (model X.prog X.w) X.A X.env X.xe) (hc : PT X c (FT X.K t)) (hb : PSs X body (FS X.K b)) : PS X (.While c body [] pos) (FS X.K (whileL t b n)) := ps_imp (ps_while hp hc hb) fun D σ H ⟨G, en, o, en', S, e1, k⟩ => by
  refine ⟨fun m σ1 H1 => ∃ G1 en1, StepS X.K en σ G H en1 σ1 G1 H1 ∧ whileL t b m en1 = some (o, en'), ⟨n, G, en, StepS.refl S, e1⟩, ?_⟩
  rintro m σ1 H1 ⟨G1, en1, T, w⟩
  cases m with
  | zero => cases w
  | succ m =>
    obtain ⟨⟨c1, en2⟩, p1, e2⟩ := Option.bind_eq_some_iff.mp (show ((t en1).bind fun x => if x.1 = true then (b x.2).bind fun y => match y.1 with
      | .nx => whileL t b m y.2
      | .ct => whileL t b m y.2
      | .bk => some (.nx, y.2)
      | .rt d c => some (.rt d c, y.2)
      else some (.nx, x.2)) = some (o, en') from w)
    refine ⟨G1, en1, c1, en2, T.sr, p1, fun G2 H2 T2 => ?_⟩
    have T12 := T.trans T2.s
    cases c1 with
    | false =>
      cases e2
      exact iteF (k G2 H2 σ1 T12)
    | true =>
      refine iteT ⟨fun σ' H' => ∃ G' e', StepS X.K en σ G H e' σ' G' H' ∧ whileL t b m e' = some (o, en'), fun σ' H' ⟨G', e', T', w'⟩ => ⟨m, Nat.lt_succ_self m, G', e', T', w'⟩, ?_⟩
      obtain ⟨⟨o3, en3⟩, p3, e3⟩ := Option.bind_eq_some_iff.mp (show ((b en2).bind fun y => match y.1 with
        | .nx => whileL t b m y.2
        | .ct => whileL t b m y.2
        | .bk => some (.nx, y.2)
        | .rt d c => some (.rt d c, y.2)) = some (o, en') from e2)
      refine ⟨G2, en2, o3, en3, T2.sr, p3, ?_⟩
      cases o3 with
      | nx => exact fun G' H' σ' T3 => ⟨G', en3, T12.trans T3, e3⟩
      | ct => exact fun G' H' σ' T3 => ⟨G', en3, T12.trans T3, e3⟩
      | bk =>
        cases e3
        exact fun G' H' σ' T3 => k G' H' σ' (T12.trans T3)
      | rt d b =>
        cases e3
        exact fun v G' H' σ' T3 r => k v G' H' σ' (T12.trans T3) (resS T12 r)

/-! ### for -/
/-- an iterator that gives these -/
def JOk (R : Given) (K : PySem.W.Frag) (J : It) (G0 : Hp) (ds : List D) : Prop := ∀ i G H, Same G0 G → Same G H → (ds.length ≤ i → J.stop i H) ∧ ∀ d, ds[i]? = some d → J.go i H ∧ ∀ x H', J.yld i H x H' → ∃ G', New G H G' H' ∧ R K G' x d
def FI (R : Given) (K : PySem.W.Frag) (f : Lv) : TI := fun σ H Q => ∃ G en ds en', SR K G H en σ ∧ f en = some (ds, en') ∧ ∀ J G' H', Step K en en' σ G H G' H' → JOk R K J G' ds → Q J H'
theorem pi_imp {tg iter : Expr} {t t' : TI} (h : PI X tg iter t) (k : ∀ σ H R, t' σ H R → t σ H R) : PI X tg iter t' := ⟨fun pins s σ H R I q => h.run pins s σ H R I (k _ _ _ q)⟩
def forL (s : Gv) (b : Sv) : List D → Sv
  | [] => fun en => some (.nx, en)
  | d :: ds => fun en => (s d en).bind fun e1 => (b e1).bind fun y => match y.1 with
    | .nx => forL s b ds y.2
    | .ct => forL s b ds y.2
    | .bk => some (.nx, y.2)
    | .rt d c => some (.rt d c, y.2)
def sFor (it : Lv) (s : Gv) (b : Sv) : Sv := fun en => (it en).bind fun x => forL s b x.1 x.2
theorem fs_for {R : Given} {tg iter : Expr} {body : List Stmt} {it : Lv} {ts : List Nat} {s : Gv} {b : Sv} (hp : PassesOwn (model X.prog X.w) X.A X.env X.xe) (hc : X.calm = true) (hi : PI X tg iter (FI R X.K it)) (hg : PG X tg (FG R X.K ts s)) (hb : PSs X body (FS X.K b)) (hs : ∀ x, foldedSetIterable iter X.env x = pure x := by intro _; rfl) :
    PS X (.For tg iter body [] pos) (FS X.K (sFor it s b)) := ps_imp (ps_for hp hc hi hg hb hs) fun D σ H ⟨G, en, o, en', S, e1, k⟩ => by
  obtain ⟨⟨ds, en1⟩, p1, e2⟩ := Option.bind_eq_some_iff.mp e1
  refine ⟨G, en, ds, en1, S, p1, fun J G1 H1 T1 hJ => ?_⟩
  refine ⟨fun i m σ2 H2 => ∃ G2 en2, StepS X.K en σ G H en2 σ2 G2 H2 ∧ Same G1 G2 ∧ m = ds.length - i ∧ forL s b (ds.drop i) en2 = some (o, en'), ⟨_, G1, en1, T1.s, Same.refl _, rfl, e2⟩, ?_⟩
  rintro i m σ2 H2 ⟨G2, en2, T2, g2, rfl, w⟩
  obtain ⟨j1, j2⟩ := hJ i G2 H2 g2 T2.sr.sub
  by_cases hi : i < ds.length
  · rw [List.drop_eq_getElem_cons hi] at w
    obtain ⟨en3, p3, e3⟩ := Option.bind_eq_some_iff.mp w
    obtain ⟨⟨o4, en4⟩, p4, e4⟩ := Option.bind_eq_some_iff.mp e3
    obtain ⟨j3, j4⟩ := j2 ds[i] (List.getElem?_eq_getElem hi)
    refine .inr ⟨j3, fun σ' H' => ∃ G' e', StepS X.K en σ G H e' σ' G' H' ∧ Same G1 G' ∧ forL s b (ds.drop (i + 1)) e' = some (o, en'), fun σ' H' ⟨G', e', T', g', w'⟩ => ⟨ds.length - (i + 1), by omega, G', e', T', g', rfl, w'⟩, fun x H3 hy => ?_⟩
    obtain ⟨G3, N3, r3⟩ := j4 x H3 hy
    have T3 := T2.trans (N3.step T2.sr).s
    refine ⟨G3, en2, _, en3, T3.sr, r3, p3, fun σ4 G4 H4 T4 _ => ?_⟩
    have T34 := T3.trans T4.s
    have g4 : Same G1 G4 := (g2.trans N3.ext.g).trans T4.ext.g
    refine ⟨G4, en3, o4, en4, T4.sr, p4, ?_⟩
    cases o4 with
    | nx => exact fun G' H' σ' T5 => ⟨G', en4, T34.trans T5, g4.trans T5.ext.g, e4⟩
    | ct => exact fun G' H' σ' T5 => ⟨G', en4, T34.trans T5, g4.trans T5.ext.g, e4⟩
    | bk =>
      cases e4
      exact fun G' H' σ' T5 => k G' H' σ' (T34.trans T5)
    | rt d b =>
      cases e4
      exact fun v G' H' σ' T5 r => k v G' H' σ' (T34.trans T5) (resS T34 r)
  · rw [List.drop_eq_nil_of_le (by omega)] at w
    cases w
    exact .inl ⟨j1 (by omega), k G2 H2 σ2 T2⟩
end

/-! ### the bodies of defs -/
section
variable {P : Program} {w : World} {K : PySem.W.Frag} {mg : Str → Option Value} {base : Heap} {x qual : Str} {params : Arguments} {body : List Stmt} {scope : Scope} {f : Addr} {fd : FuncData} {N ps : List Str} {k : Nat} {g : Sv}
theorem reps_start {G H : Hp} (s : Same G H) {vs : List V} {ds : List D} (r : Reps K G vs ds) : SR K G H (ini N.length ds) (L2.start N vs) := by
  have hl := r.length
  have at_ : ∀ (i : Nat) (d : D) (f : Fl), (ini N.length ds)[i]? = some (some (d, f)) → f = .sh ∧ ds[i]? = some d := fun i d f q => by
    unfold ini at q
    by_cases hi : i < ds.length
    · rw [List.getElem?_append_left (by simpa using hi), List.getElem?_map, List.getElem?_eq_getElem hi] at q
      cases q
      exact ⟨rfl, List.getElem?_eq_getElem hi⟩
    · rw [List.getElem?_append_right (by simpa using hi), List.getElem?_replicate] at q
      split at q <;> cases q
  refine ⟨s, ?_, fun i d q => ?_, fun i d f q n => absurd (at_ i d f q).1 n, fun i j d e f g a q1 n1 => absurd (at_ i d f q1).1 n1⟩
  · unfold ini L2.start
    rw [List.length_append, List.length_append, List.length_map, List.length_map, List.length_replicate, List.length_replicate, hl]
  · obtain ⟨v, h1, h2⟩ := r.get' (at_ i d _ q).2
    refine ⟨v, ?_, h2⟩
    unfold L2.start
    have hi := (List.getElem?_eq_some_iff.mp h1).1
    rw [List.getElem?_append_left (by simpa using hi), List.getElem?_map, h1]
    rfl
theorem ok_def0 (F : FunD K x qual params body scope [] [] f fd) (S : FnScope N ps scope) (hb : ∀ (cdv : Value) (A : Around) (outer : List Env) (s : Shared) (H : Hp) (E : XK), Room k (A.deeper (PyProof.Rows.envOfC qual scope s.heap.objs.size f cdv)) → PSs (cxOf CX0 P w K mg base N qual scope f cdv A outer s H E).nox body (FS K g)) :
    FnOk P w K mg base CX0 (k + 1) f fd ps (sp0 K ps.length (mk0 N.length g)) := by
  refine F.ok S (fun vs H Q E ⟨G, ds, d, b, _, r, hl, _⟩ => r.length.trans hl) fun cdv A outer s H vs Q E hr ⟨G, ds, d, b, sm, r, hl, e, q⟩ => ⟨FS K g, PSs.nox (hb cdv A outer s H E hr), ?_⟩
  obtain ⟨⟨o, en'⟩, p1, e1⟩ := Option.bind_eq_some_iff.mp e
  have S0 := reps_start (N := N) sm r
  have no : ∀ x, ¬ OwnA (ini N.length ds) (L2.start N vs) x := fun x ⟨i, d, f, q1, n, _⟩ => by
    by_cases hi : f = .sh
    · exact n hi
    · obtain ⟨a, o, _⟩ := S0.own i d f q1 n
      unfold ini at q1
      by_cases hj : i < ds.length
      · rw [List.getElem?_append_left (by simpa using hj), List.getElem?_map, List.getElem?_eq_getElem hj] at q1
        cases q1
        exact n rfl
      · rw [List.getElem?_append_right (by simpa using hj), List.getElem?_replicate] at q1
        split at q1 <;> cases q1
  have nw : ∀ {G' H' : Hp} {σ' : St}, StepS K (ini N.length ds) (L2.start N vs) G H en' σ' G' H' → New G H G' H' := fun {G' H' σ'} T => ⟨T.ext.weak fun x _ z _ => no x z, T.sr.sub⟩
  refine ⟨G, _, o, en', S0, p1, ?_⟩
  cases o with
  | nx =>
    cases e1
    exact fun G' H' σ' T => q _ G' H' (nw T) Rep.non
  | bk => cases e1
  | ct => cases e1
  | rt d2 b2 =>
    cases e1
    intro v G' H' σ' T r2
    refine q v G' H' (nw T) ?_
    cases b with
    | false => exact r2
    | true =>
      obtain ⟨a, u, e5, w1, w2, w3, w4, w5⟩ := r2
      exact ⟨a, u, e5, .inl (w1.resolve_right (no a)), fun z => z, w3, w4, w5⟩
theorem ok_defW (F : FunD K x qual params body scope [] [] f fd) (S : FnScope N ps scope) {np : Nat} (hnp : ps.length = np + 1) (hN : 0 < N.length) (hb : ∀ (cdv : Value) (A : Around) (outer : List Env) (s : Shared) (H : Hp) (E : XK), Room k (A.deeper (PyProof.Rows.envOfC qual scope s.heap.objs.size f cdv)) → PSs (cxOf CX0 P w K mg base N qual scope f cdv A outer s H E).nox body (FS K g)) :
    FnOk P w K mg base CX0 (k + 1) f fd ps (spW K np (mkW N.length g)) := by
  refine F.ok S (fun vs H Q E ⟨G, a, o, dw, ws, ds, d, b, dw', e, _, _, _, _, r, hl, _⟩ => by rw [e, List.length_cons, r.length, hl, hnp]) fun cdv A outer s H vs Q E hr ⟨G, a, o, dw, ws, ds, d, b, dw', ev, sm, ga, ha, ro, r, hl, e, q⟩ => ⟨FS K g, PSs.nox (hb cdv A outer s H E hr), ?_⟩
  subst ev
  obtain ⟨⟨o1, en'⟩, p1, e0⟩ := Option.bind_eq_some_iff.mp e
  obtain ⟨dw2, p2, e1⟩ := Option.bind_eq_some_iff.mp e0
  have R := reps_start (N := N.drop 1) sm r
  have el : (N.drop 1).length = N.length - 1 := by rw [List.length_drop]
  rw [el] at R
  have es : L2.start N (.ref a :: ws) = some (.ref a) :: L2.start (N.drop 1) ws := by
    unfold L2.start
    rw [el, List.map_cons, List.cons_append, List.length_cons, Nat.sub_sub, Nat.add_comm 1]
  rw [es]
  have S0 : SR K G H (some (dw, Fl.lent) :: ini (N.length - 1) ds) (some (.ref a) :: L2.start (N.drop 1) ws) := by
    refine ⟨sm, congrArg Nat.succ R.len, fun i d q => ?_, fun i d f q n => ?_, fun i j d e f g b q1 n1 q2 n2 s1 s2 => ?_⟩
    · cases i with
      | zero => cases q
      | succ i => exact R.shd i d q
    · cases i with
      | zero =>
        cases q
        exact ⟨a, o, rfl, ga, ha, ro⟩
      | succ i => exact R.own i d f q n
    · have no : ∀ (i : Nat) (d : D) (f : Fl), (some (dw, Fl.lent) :: ini (N.length - 1) ds)[i]? = some (some (d, f)) → f ≠ .sh → i = 0 := fun i d f q n => by
        cases i with
        | zero => rfl
        | succ i =>
          obtain ⟨_, _, _⟩ := R.own i d f q n
          have q' : (ini (N.length - 1) ds)[i]? = some (some (d, f)) := q
          unfold ini at q'
          by_cases hj : i < ds.length
          · rw [List.getElem?_append_left (by simpa using hj), List.getElem?_map, List.getElem?_eq_getElem hj] at q'
            cases q'
            exact absurd rfl n
          · rw [List.getElem?_append_right (by simpa using hj), List.getElem?_replicate] at q'
            split at q' <;> cases q'
      rw [no i d f q1 n1, no j e g q2 n2]
  have only : ∀ x, OwnA (some (dw, Fl.lent) :: ini (N.length - 1) ds) (some (.ref a) :: L2.start (N.drop 1) ws) x → x = a := fun x ⟨i, d, f, q1, n, z⟩ => by
    have e0 := S0.sep i 0 d dw f .lent x q1 n rfl (by decide) z
    cases i with
    | zero =>
      cases z
      rfl
    | succ i =>
      have q' : (ini (N.length - 1) ds)[i]? = some (some (d, f)) := q1
      unfold ini at q'
      by_cases hj : i < ds.length
      · rw [List.getElem?_append_left (by simpa using hj), List.getElem?_map, List.getElem?_eq_getElem hj] at q'
        cases q'
        exact absurd rfl n
      · rw [List.getElem?_append_right (by simpa using hj), List.getElem?_replicate] at q'
        split at q' <;> cases q'
  have me : OwnA (some (dw, Fl.lent) :: ini (N.length - 1) ds) (some (.ref a) :: L2.start (N.drop 1) ws) a := ⟨0, dw, .lent, rfl, by decide, rfl⟩
  have fin : ∀ {G' H' : Hp} {σ' : St} {v : V} {d : D} {b : Bool}, StepS K (some (dw, Fl.lent) :: ini (N.length - 1) ds) (some (.ref a) :: L2.start (N.drop 1) ws) G H en' σ' G' H' → Res K (OwnA (some (dw, Fl.lent) :: ini (N.length - 1) ds) (some (.ref a) :: L2.start (N.drop 1) ws)) H (OwnA en' σ') G' H' v d b →
      (∀ o', Ext (fun x => x = a) G H G' H' → Same G' H' → G' a = none → H' a = some o' → RepO K G' o' dw2 → Res K (fun x => x = a) H (fun x => x = a) G' H' v d b → Q v H') → Q v H' := by
    intro G' H' σ' v d b T r2 q2
    obtain ⟨_, st⟩ := T.lent 0 dw rfl
    have en0 := lentAt_of p2
    obtain ⟨a', o', s1, s2, s3, s4⟩ := T.sr.own 0 dw2 .lent en0 (by decide)
    rw [st] at s1
    cases s1
    have me' : OwnA en' σ' a := ⟨0, dw2, .lent, en0, by decide, st⟩
    refine q2 o' (T.ext.weak fun x _ z _ => only x z) T.sr.sub s2 s3 s4 ?_
    cases b with
    | false => exact r2
    | true =>
      obtain ⟨c, u, e5, w1, w2, w3, w4, w5⟩ := r2
      refine ⟨c, u, e5, ?_, fun z => w2 (by rw [z]; exact me'), w3, w4, w5⟩
      rcases w1 with w1 | w1
      · exact .inl w1
      · exact .inr (only c w1)
  refine ⟨G, _, o1, en', S0, p1, ?_⟩
  cases o1 with
  | nx =>
    cases e1
    exact fun G' H' σ' T => fin (b := false) T Rep.non fun o' E s g h ro' R' => q _ G' H' o' E s g h ro' R'
  | bk => cases e1
  | ct => cases e1
  | rt d2 b2 =>
    cases e1
    exact fun v G' H' σ' T r2 => fin T r2 fun o' E s g h ro' R' => q v G' H' o' E s g h ro' R'
end
end Fx
/-! Fx5: what is walked, comprehensions. -/
namespace Fx
open PySem PySem.Spec L2
/-! ### the block's own names are forgotten, and come back -/
def wipeE (en : En) : List Nat → En
  | [] => en
  | v :: vs => (wipeE en vs).set v none
def backE (e0 e1 : En) : List Nat → En
  | [] => e1
  | v :: vs => match e0[v]? with
    | some x => (backE e0 e1 vs).set v x
    | none => backE e0 e1 vs
section
variable {K : PySem.W.Frag} {G H G1 H1 G2 H2 : Hp} {en en1 en2 : En} {σ σ1 : St}
theorem wipeE_len (en : En) : ∀ vs : List Nat, (wipeE en vs).length = en.length
  | [] => rfl
  | v :: vs => by unfold wipeE; rw [List.length_set, wipeE_len en vs]
theorem wipeE_at {i : Nat} {x : D × Fl} : ∀ {vs : List Nat}, (wipeE en vs)[i]? = some (some x) → en[i]? = some (some x) ∧ i ∉ vs
  | [], h => ⟨h, by simp⟩
  | v :: vs, h => by
    unfold wipeE at h
    rcases set_at h with ⟨_, w, _⟩ | ⟨hi, w⟩
    · cases w
    · obtain ⟨h1, h2⟩ := wipeE_at w
      exact ⟨h1, by simp only [List.mem_cons, not_or]; exact ⟨hi, h2⟩⟩
theorem wipeE_off {i : Nat} : ∀ {vs : List Nat}, i ∉ vs → (wipeE en vs)[i]? = en[i]?
  | [], _ => rfl
  | v :: vs, h => by
    simp only [List.mem_cons, not_or] at h
    unfold wipeE
    rw [List.getElem?_set_ne (Ne.symm h.1), wipeE_off h.2]
theorem wipe_off {i : Nat} : ∀ {vs : List Nat}, i ∉ vs → (wipe σ vs)[i]? = σ[i]?
  | [], _ => rfl
  | v :: vs, h => by
    simp only [List.mem_cons, not_or] at h
    unfold wipe
    rw [List.getElem?_set_ne (Ne.symm h.1), wipe_off h.2]
theorem wipe_on {i : Nat} : ∀ {vs : List Nat}, i ∈ vs → i < σ.length → (wipe σ vs)[i]? = some none
  | v :: vs, h, hl => by
    unfold wipe
    by_cases hi : i = v
    · subst hi
      exact List.getElem?_set_self (by rw [wipe_length]; exact hl)
    · rw [List.getElem?_set_ne (Ne.symm hi)]
      exact wipe_on ((List.mem_cons.mp h).resolve_left hi) hl
theorem SR.wipe {vs : List Nat} (S : SR K G H en σ) : SR K G H (wipeE en vs) (wipe σ vs) := by
  refine ⟨S.sub, by rw [wipeE_len, wipe_length]; exact S.len, fun i d q => ?_, fun i d f q n => ?_, fun i j d e f g a q1 n1 q2 n2 s1 s2 => ?_⟩
  · obtain ⟨q1, q2⟩ := wipeE_at q
    obtain ⟨v, s1, s2⟩ := S.shd i d q1
    exact ⟨v, by rw [wipe_off q2]; exact s1, s2⟩
  · obtain ⟨q1, q2⟩ := wipeE_at q
    obtain ⟨a, o, s1, s2⟩ := S.own i d f q1 n
    exact ⟨a, o, by rw [wipe_off q2]; exact s1, s2⟩
  · obtain ⟨q1, h1⟩ := wipeE_at q1
    obtain ⟨q2, h2⟩ := wipeE_at q2
    rw [wipe_off h1] at s1
    rw [wipe_off h2] at s2
    exact S.sep i j d e f g a q1 n1 q2 n2 s1 s2
theorem own_wipe {vs : List Nat} {b : Addr} (h : OwnA (wipeE en vs) (wipe σ vs) b) : OwnA en σ b := by
  obtain ⟨i, d, f, q, n, s⟩ := h
  obtain ⟨q1, q2⟩ := wipeE_at q
  rw [wipe_off q2] at s
  exact ⟨i, d, f, q1, n, s⟩
theorem backE_len {e0 e1 : En} (h : e0.length = e1.length) : ∀ vs : List Nat, (backE e0 e1 vs).length = e1.length
  | [] => rfl
  | v :: vs => by
    unfold backE
    split
    · rw [List.length_set, backE_len h vs]
    · exact backE_len h vs
theorem backE_at {e0 e1 : En} {i : Nat} {x : Option (D × Fl)} (h : e0.length = e1.length) : ∀ {vs : List Nat}, (backE e0 e1 vs)[i]? = some x → (i ∈ vs ∧ e0[i]? = some x) ∨ (i ∉ vs ∧ e1[i]? = some x)
  | [], q => .inr ⟨by simp, q⟩
  | v :: vs, q => by
    unfold backE at q
    split at q
    · rename_i y e
      rcases set_at q with ⟨rfl, w, _⟩ | ⟨hi, w⟩
      · exact .inl ⟨List.mem_cons_self .., by rw [e, w]⟩
      · rcases backE_at h w with ⟨a, b⟩ | ⟨a, b⟩
        · exact .inl ⟨List.mem_cons_of_mem _ a, b⟩
        · exact .inr ⟨by simp only [List.mem_cons, not_or]; exact ⟨hi, a⟩, b⟩
    · rename_i e
      have hv : e0.length ≤ v := List.getElem?_eq_none_iff.mp e
      have hi : i < (backE e0 e1 vs).length := (List.getElem?_eq_some_iff.mp q).1
      rw [backE_len h] at hi
      have ne : i ≠ v := by omega
      rcases backE_at h q with ⟨a, b⟩ | ⟨a, b⟩
      · exact .inl ⟨List.mem_cons_of_mem _ a, b⟩
      · exact .inr ⟨by simp only [List.mem_cons, not_or]; exact ⟨ne, a⟩, b⟩
theorem backE_on {e0 e1 : En} {i : Nat} (h : e0.length = e1.length) (vs : List Nat) (hi : i < e1.length) : (i ∈ vs → (backE e0 e1 vs)[i]? = e0[i]?) ∧ (i ∉ vs → (backE e0 e1 vs)[i]? = e1[i]?) := by
  have hb : i < (backE e0 e1 vs).length := by rw [backE_len h]; exact hi
  have q := List.getElem?_eq_getElem hb
  rcases backE_at h q with ⟨a, b⟩ | ⟨a, b⟩
  · exact ⟨fun _ => by rw [q, b], fun n => absurd a n⟩
  · exact ⟨fun n => absurd n a, fun _ => by rw [q, b]⟩
/-- behind the block the slots stand as ahead of it, but for what was written -/
theorem StepG.back {vs : List Nat} (S : SR K G H en σ) (T : StepG K (wipeE en vs) (wipe σ vs) G H en1 (wipe σ vs) G1 H1) : Step K en (backE en en1 vs) σ G H G1 H1 := by
  have hl : en.length = en1.length := by
    have := T.sr.len
    rw [wipe_length] at this
    rw [this]; exact S.len
  have off : ∀ {i : Nat} {w : Option V}, i ∉ vs → (wipe σ vs)[i]? = some w → σ[i]? = some w := fun {i w} n q => by rw [wipe_off n] at q; exact q
  have far : ∀ {i : Nat} {d : D} {f : Fl} {a : Addr}, i ∈ vs → en[i]? = some (some (d, f)) → f ≠ .sh → σ[i]? = some (some (.ref a)) → ¬ OwnA (wipeE en vs) (wipe σ vs) a := fun {i d f a} hi q n s ⟨j, d2, g, q2, n2, s2⟩ => by
    obtain ⟨q3, h3⟩ := wipeE_at q2
    rw [wipe_off h3] at s2
    exact h3 (S.sep i j d d2 f g a q n q3 n2 s s2 ▸ hi)
  refine ⟨T.ext.weak fun b o z _ => own_wipe z, ⟨T.sr.sub, by rw [backE_len hl, ← hl]; exact S.len, fun i d q => ?_, fun i d f q n => ?_, fun i j d e f g a q1 n1 q2 n2 s1 s2 => ?_⟩, fun b ⟨i, d, f, q, n, s⟩ => ?_, fun i d q => ?_⟩
  · rcases backE_at hl q with ⟨a, b⟩ | ⟨a, b⟩
    · obtain ⟨v, s1, s2⟩ := S.shd i d b
      exact ⟨v, s1, s2.mono T.ext.g⟩
    · obtain ⟨v, s1, s2⟩ := T.sr.shd i d b
      exact ⟨v, off a s1, s2⟩
  · rcases backE_at hl q with ⟨a, b⟩ | ⟨a, b⟩
    · obtain ⟨x, o, s1, s2, s3, s4⟩ := S.own i d f b n
      have nf := far a b n s1
      exact ⟨x, o, s1, T.ext.n x o s3 nf s2, T.ext.h x o s3 nf, s4.mono T.ext.g⟩
    · obtain ⟨x, o, s1, s2⟩ := T.sr.own i d f b n
      exact ⟨x, o, off a s1, s2⟩
  · have cross : ∀ (i j : Nat) (d e : D) (f g : Fl), i ∈ vs → en[i]? = some (some (d, f)) → f ≠ .sh → j ∉ vs → en1[j]? = some (some (e, g)) → g ≠ .sh → σ[i]? = some (some (.ref a)) → σ[j]? = some (some (.ref a)) → False := fun i j d e f g hi q n hj q' n' s s' =>
      far hi q n s (T.own a ⟨j, e, g, q', n', by rw [wipe_off hj]; exact s'⟩)
    rcases backE_at hl q1 with ⟨a1, b1⟩ | ⟨a1, b1⟩
    · rcases backE_at hl q2 with ⟨a2, b2⟩ | ⟨a2, b2⟩
      · exact S.sep i j d e f g a b1 n1 b2 n2 s1 s2
      · exact (cross i j d e f g a1 b1 n1 a2 b2 n2 s1 s2).elim
    · rcases backE_at hl q2 with ⟨a2, b2⟩ | ⟨a2, b2⟩
      · exact (cross j i e d g f a2 b2 n2 a1 b1 n1 s2 s1).elim
      · exact T.sr.sep i j d e f g a b1 n1 b2 n2 (by rw [wipe_off a1]; exact s1) (by rw [wipe_off a2]; exact s2)
  · rcases backE_at hl q with ⟨a, b⟩ | ⟨a, b⟩
    · exact ⟨i, d, f, b, n, s⟩
    · exact own_wipe (T.own _ ⟨i, d, f, b, n, by rw [wipe_off a]; exact s⟩)
  · have hi : i < en1.length := by rw [← hl]; exact (List.getElem?_eq_some_iff.mp q).1
    obtain ⟨k1, k2⟩ := backE_on hl vs hi
    by_cases hv : i ∈ vs
    · exact ⟨d, by rw [k1 hv]; exact q⟩
    · obtain ⟨⟨d', e'⟩, _⟩ := T.lent i d (by rw [wipeE_off hv]; exact q)
      exact ⟨d', by rw [k2 hv]; exact e'⟩
/-- an object of nobody is written -/
theorem SR.nobody {a : Addr} {o o' : HO} (S : SR K G H en σ) (h : H a = some o) (g : G a = none) (n : ¬ OwnA en σ a) : SR K G (upd H a o') en σ := by
  refine ⟨fun b u e => ?_, S.len, S.shd, fun i d f q n1 => ?_, S.sep⟩
  · have hb : b ≠ a := fun z => by rw [z, g] at e; cases e
    rw [upd_ne hb]
    exact S.sub b u e
  · obtain ⟨x, u, s1, s2, s3, s4⟩ := S.own i d f q n1
    have hb : x ≠ a := fun z => n ⟨i, d, f, q, n1, by rw [← z]; exact s1⟩
    exact ⟨x, u, s1, s2, by rw [upd_ne hb]; exact s3, s4⟩
theorem Ext.nobody {O : Addr → Prop} {a : Addr} {o' : HO} (E : Ext O G H G1 H1) (h : H a = none) : Ext O G H G1 (upd H1 a o') := by
  refine ⟨E.g, fun b u e n => ?_, E.n, fun b e => ?_⟩
  · rw [upd_ne (ne_of_none e h)]
    exact E.h b u e n
  · by_cases hb : b = a
    · rw [hb]; exact h
    · rw [upd_ne hb] at e
      exact E.t b e
end
/-! ### the tests of a clause -/
def tTrue : Tv := fun en => some (true, en)
section
variable {X : Cx} {e : Expr} {pos : Pos}
theorem ft_none : PTs X [] (FT X.K tTrue) := ⟨fun pins s σ H Q I ⟨G, en, b, en', S, e1, k⟩ => by
  cases e1
  exact pts_nil.run pins s σ H Q I (k G H (Step.refl S))⟩
theorem ft_one {c : Expr} {t : Tv} (h : PT X c (FT X.K t)) : PTs X [c] (FT X.K t) := pts_one h
/-! ### [elt for target in iter if test] -/
def lcL (vs : List Nat) (s : Gv) (t : Tv) (f : Vv) : List D → En → Option (List D × En)
  | [], en => some ([], en)
  | d :: ds, en => (s d (wipeE en vs)).bind fun e1 => (t e1).bind fun x => if x.1 = true then (f x.2).bind fun y => (lcL vs s t f ds (wipeE y.2 vs)).map fun r => (y.1 :: r.1, r.2) else lcL vs s t f ds (wipeE x.2 vs)
def fLc (vs : List Nat) (it : Lv) (s : Gv) (t : Tv) (f : Vv) : Ev := fun en => (it en).bind fun x => (lcL vs s t f x.1 (wipeE x.2 vs)).bind fun y => if y.1.length ≤ sizeLine then some (.list y.1, true, backE x.2 y.2 vs) else none
theorem wipe_wipe {K : PySem.W.Frag} {σ σ2 : St} {vs ts : List Nat} (hs : ∀ i ∈ ts, i ∈ vs) (hl : σ2.length = σ.length) (k : ∀ i, i ∉ ts → σ2[i]? = (wipe σ vs)[i]?) : wipe σ2 vs = wipe σ vs := by
  apply List.ext_getElem?
  intro i
  by_cases hi : i ∈ vs
  · by_cases hn : i < σ.length
    · rw [wipe_on hi hn, wipe_on hi (by rw [hl]; exact hn)]
    · rw [List.getElem?_eq_none (by rw [wipe_length]; omega), List.getElem?_eq_none (by rw [wipe_length]; omega)]
  · rw [wipe_off hi, k i fun z => hi (hs i z)]
theorem wipeE_wipeE {en : En} {vs : List Nat} : wipeE (wipeE en vs) vs = wipeE en vs := by
  have on : ∀ {e : En} {us : List Nat} {i : Nat}, i ∈ us → i < e.length → (wipeE e us)[i]? = some none := by
    intro e us
    induction us with
    | nil => intro i h; cases h
    | cons v us ih =>
      intro i h hl
      unfold wipeE
      by_cases hv : i = v
      · subst hv
        exact List.getElem?_set_self (by rw [wipeE_len]; exact hl)
      · rw [List.getElem?_set_ne (Ne.symm hv)]
        exact ih ((List.mem_cons.mp h).resolve_left hv) hl
  apply List.ext_getElem?
  intro i
  by_cases hi : i ∈ vs
  · by_cases hn : i < en.length
    · rw [on hi hn, on hi (by rw [wipeE_len]; exact hn)]
    · rw [List.getElem?_eq_none (by rw [wipeE_len, wipeE_len]; omega), List.getElem?_eq_none (by rw [wipeE_len]; omega)]
  · rw [wipeE_off hi]
theorem lc_of {R : Given} {K : PySem.W.Frag} {vs ts : List Nat} {it : Lv} {s : Gv} {t : Tv} {f : Vv} (hts : ∀ i ∈ ts, i ∈ vs) {σ : St} {H : Hp} {Q : VK} (h : FE K (fLc vs it s t f) σ H Q) : tLc (FI R K it) (FG R K ts s) (FT K t) (FV K f) vs σ H Q := by
  obtain ⟨G, en, z, zb, en', S, e1, k⟩ := h
  obtain ⟨⟨ds, en1⟩, p1, e2⟩ := Option.bind_eq_some_iff.mp e1
  obtain ⟨⟨rs, en2⟩, p2, e3⟩ := Option.bind_eq_some_iff.mp e2
  obtain ⟨hz, e4⟩ := ite_some e3
  cases e4
  refine ⟨G, en, ds, en1, S, p1, fun J G1 H1 T1 hJ D hD => ?_⟩
  have S1 := T1.sr
  have nobD : ∀ {e : En} {σ' : St}, (∀ b, OwnA e σ' b → OwnA (wipeE en1 vs) (wipe σ vs) b) → ¬ OwnA e σ' D := fun {e σ'} hh q => by
    obtain ⟨o, ho, _⟩ := S1.there (own_wipe (hh D q))
    rw [hD] at ho
    cases ho
  -- the loop: what is made so far, and what is left
  refine ⟨fun i m H' => ∃ G' e' accV acc rest, StepG K (wipeE en1 vs) (wipe σ vs) G1 H1 e' (wipe σ vs) G' H' ∧ wipeE e' vs = e' ∧ G' D = none ∧ H' D = some (.lst accV) ∧ Reps K G' accV acc ∧ m = ds.length - i ∧ lcL vs s t f (ds.drop i) e' = some (rest, en2) ∧ rs = acc ++ rest, ⟨ds.length, G1, _, [], [], rs, ?_, wipeE_wipeE, S1.sub.free hD, upd_same, .nil, rfl, p2, rfl⟩, ?_⟩
  · have N := New.own (o := .lst []) S1.sub hD
    exact step_g (N.step S1.wipe)
  rintro i m H2 ⟨G2, e2, accV, acc, rest, T2, w2, gD, hD2, ra, rfl, pl, er⟩
  have nD2 := nobD T2.own
  have gg : Same G1 G2 := T2.ext.g
  obtain ⟨j1, j2⟩ := hJ i G2 H2 gg T2.sr.sub
  by_cases hi : i < ds.length
  · rw [List.drop_eq_getElem_cons hi] at pl
    obtain ⟨e3, q3, pl⟩ := Option.bind_eq_some_iff.mp pl
    obtain ⟨⟨c, e4⟩, q4, pl⟩ := Option.bind_eq_some_iff.mp pl
    rw [w2] at q3
    obtain ⟨j3, j4⟩ := j2 ds[i] (List.getElem?_eq_getElem hi)
    refine .inr ⟨j3, fun H' => ∃ G' e' accV acc rest, StepG K (wipeE en1 vs) (wipe σ vs) G1 H1 e' (wipe σ vs) G' H' ∧ wipeE e' vs = e' ∧ G' D = none ∧ H' D = some (.lst accV) ∧ Reps K G' accV acc ∧ lcL vs s t f (ds.drop (i + 1)) e' = some (rest, en2) ∧ rs = acc ++ rest,
      fun H' ⟨G', e', aV, a, r, h1, h2, h3, h4, h5, h6, h7⟩ => ⟨ds.length - (i + 1), by omega, G', e', aV, a, r, h1, h2, h3, h4, h5, rfl, h6, h7⟩, fun x H3 hy => ?_⟩
    obtain ⟨G3, N3, r3⟩ := j4 x H3 hy
    have T3 := T2.trans (step_g (N3.step T2.sr))
    have gD3 : G3 D = none := N3.ext.n D _ hD2 (fun z => z) gD
    have hD3 : H3 D = some (.lst accV) := N3.ext.h D _ hD2 fun z => z
    refine ⟨G3, e2, _, e3, T3.sr, r3, q3, fun σ4 G4 H4 T4 k4 => ?_⟩
    have hl4 : σ4.length = σ.length := k4.1.trans (wipe_length σ vs)
    have ww : wipe σ4 vs = wipe σ vs := wipe_wipe (K := K) hts hl4 k4.2
    refine ⟨ww, ?_⟩
    have T34 := T3.trans T4
    have nD4 := nobD T34.own
    have nD3 := nobD T3.own
    have gD4 : G4 D = none := T4.ext.n D _ hD3 nD3 gD3
    have hD4 : H4 D = some (.lst accV) := T4.ext.h D _ hD3 nD3
    refine ⟨G4, e3, c, e4, T4.sr, q4, fun G5 H5 T5 => ?_⟩
    have T35 := T34.trans (step_g T5)
    have nD5 := nobD T35.own
    have gD5 : G5 D = none := T5.ext.n D _ hD4 nD4 gD4
    have hD5 : H5 D = some (.lst accV) := T5.ext.h D _ hD4 nD4
    -- a turn's end, the block's own names forgotten
    have fin : ∀ {e6 : En} {G6 H6 : Hp}, StepG K (wipeE en1 vs) (wipe σ vs) G1 H1 e6 σ4 G6 H6 → StepG K (wipeE en1 vs) (wipe σ vs) G1 H1 (wipeE e6 vs) (wipe σ vs) G6 H6 := fun {e6 G6 H6} T => by
      have W := T.sr.wipe (vs := vs)
      rw [ww] at W
      refine ⟨T.ext, W, fun b q => ?_, fun i d q => ?_⟩
      · rw [← ww] at q
        exact T.own b (own_wipe q)
      · obtain ⟨⟨d', e'⟩, s'⟩ := T.lent i d q
        exact ⟨⟨d', by rw [wipeE_off (wipeE_at q).2]; exact e'⟩, rfl⟩
    cases c with
    | false =>
      refine iteF ⟨G5, wipeE e4 vs, accV, acc, rest, fin T35, wipeE_wipeE, gD5, hD5, ra.mono ((N3.ext.g.trans T4.ext.g).trans T5.ext.g), ?_, er⟩
      exact pl
    | true =>
      obtain ⟨⟨y, e6⟩, q6, pl⟩ := Option.bind_eq_some_iff.mp (show ((f e4).bind fun y => (lcL vs s t f (ds.drop (i + 1)) (wipeE y.2 vs)).map fun r => (y.1 :: r.1, r.2)) = some (rest, en2) from pl)
      obtain ⟨⟨rest', en3⟩, q7, pl⟩ := Option.map_eq_some_iff.mp pl
      cases pl
      refine iteT ⟨G5, e4, y, e6, T5.sr, q6, fun yv G6 H6 T6 ry => ?_⟩
      have T36 := T35.trans (step_g T6)
      have gD6 : G6 D = none := T6.ext.n D _ hD5 nD5 gD5
      have hD6 : H6 D = some (.lst accV) := T6.ext.h D _ hD5 nD5
      have ra6 := ra.mono (((N3.ext.g.trans T4.ext.g).trans T5.ext.g).trans T6.ext.g)
      have T7 := fin T36
      refine ⟨accV, hD6, ?_, G6, wipeE e6 vs, accV ++ [yv], acc ++ [y], rest', ⟨T7.ext.nobody hD, T7.sr.nobody hD6 gD6 (nobD T7.own), T7.own, T7.lent⟩, wipeE_wipeE, gD6, upd_same, ra6.append (.cons ry .nil), q7, by rw [er, List.append_assoc]; rfl⟩
      have h1 := ra.length
      rw [er, List.length_append, List.length_cons] at hz
      omega
  · rw [List.drop_eq_nil_of_le (by omega)] at pl
    cases pl
    refine .inl ⟨j1 (by omega), ?_⟩
    have B := T2.back S1
    have er2 : rs = acc := by rw [er, List.append_nil]
    refine k _ G2 H2 (T1.trans B) (Res.new (.inl (T1.ext.t D hD)) (fun q => ?_) hD2 gD (.lst (er2 ▸ ra)))
    obtain ⟨o, ho, _⟩ := S1.there (B.own D q)
    rw [hD] at ho
    cases ho
theorem fe_lc {R : Given} {elt tg iter : Expr} {ifs : List Expr} {scope : Scope} {own : List (Str × Nat)} {ts : List Nat} {it : Lv} {s : Gv} {t : Tv} {f : Vv} (hc : X.calm = true) (hN : X.N.Nodup) (hi : PI X tg iter (FI R X.K it)) (ok : BlkOk X.N X.env.scope scope own) (hts : ∀ i ∈ ts, i ∈ own.map (·.2))
    (hg : ∀ (s' : Shared) (H : Hp) (C : Addr) (cl : List (Str × Addr)) (fp : List Addr), PG (X.blk s' H scope (compEnvC scope cl C X.env) fp) tg (FG R X.K ts s))
    (ht : ∀ (s' : Shared) (H : Hp) (C : Addr) (cl : List (Str × Addr)) (fp : List Addr), PTs (X.blk s' H scope (compEnvC scope cl C X.env) fp) ifs (FT X.K t))
    (he : ∀ (s' : Shared) (H : Hp) (C : Addr) (cl : List (Str × Addr)) (fp : List Addr), PE (X.blk s' H scope (compEnvC scope cl C X.env) fp) elt (FV X.K f)) (hs : ∀ x, foldedSetIterable iter X.env x = pure x := by intro _; rfl) :
    PE X (.ListComp elt [⟨tg, iter, ifs, 0⟩] scope pos) (FE X.K (fLc (own.map (·.2)) it s t f)) := pe_imp (pe_lc hc hN hi ok hg ht he hs) fun _ _ _ h => lc_of hts h
theorem fs_setLc {R : Given} {i : Nat} {y : Str} {py spos : Pos} {elt tg iter : Expr} {ifs : List Expr} {scope : Scope} {own : List (Str × Nat)} {ts : List Nat} {it : Lv} {s : Gv} {t : Tv} {f : Vv} (hc : X.calm = true) (hN : X.N.Nodup) (hi : PI X tg iter (FI R X.K it)) (ok : BlkOk X.N X.env.scope scope own) (hts : ∀ i ∈ ts, i ∈ own.map (·.2))
    (hg : ∀ (s' : Shared) (H : Hp) (C : Addr) (cl : List (Str × Addr)) (fp : List Addr), PG (X.blk s' H scope (compEnvC scope cl C X.env) fp) tg (FG R X.K ts s))
    (ht : ∀ (s' : Shared) (H : Hp) (C : Addr) (cl : List (Str × Addr)) (fp : List Addr), PTs (X.blk s' H scope (compEnvC scope cl C X.env) fp) ifs (FT X.K t))
    (he : ∀ (s' : Shared) (H : Hp) (C : Addr) (cl : List (Str × Addr)) (fp : List Addr), PE (X.blk s' H scope (compEnvC scope cl C X.env) fp) elt (FV X.K f))
    (hy : X.N[i]? = some y := by rfl) (hyl : X.env.scope.names.lookup y = some .local := by rfl) (hsw : swapsWith (.ListComp elt [⟨tg, iter, ifs, 0⟩] scope pos) (some (.Name y py)) spos.line X.env = pure true := by exact sw_true rfl rfl rfl (by decide +kernel)) (hs : ∀ x, foldedSetIterable iter X.env x = pure x := by intro _; rfl) :
    PS X (.Assign [.Name y py] (.ListComp elt [⟨tg, iter, ifs, 0⟩] scope pos) spos) (FS X.K (sSet i (fLc (own.map (·.2)) it s t f))) := ps_imp (ps_setLc hc hN hy hyl hsw hi ok hg ht he hs) fun D σ H ⟨G, en, o, en', S, e1, k⟩ => by
  obtain ⟨⟨d, b, en1⟩, p1, e2⟩ := Option.bind_eq_some_iff.mp e1
  obtain ⟨hl, e3⟩ := ite_some e2
  cases e3
  exact lc_of hts ⟨G, en, d, b, en1, S, p1, fun v G1 H1 T r => k G1 H1 _ (T.s.store hl r)⟩
end
end Fx
/-! Fx6: walked values and ranges; operators on data. -/
namespace Fx
open PySem PySem.Spec L2
/-! ### what a for walks -/
def charsD (z : Str) : List D := z.cps.toList.map fun c => .str ⟨#[c]⟩
def seqD : D → Option (List D)
  | .list ds => some ds
  | .tuple ds => some ds
  | .str z => some (charsD z)
  | _ => none
def itV (f : Vv) : Lv := fun en => (f en).bind fun x => (seqD x.1).map fun ds => (ds, x.2)
section
variable {X : Cx} {tg e : Expr} {pos p : Pos} {K : PySem.W.Frag}
theorem jok_list {a : Addr} {xs : List V} {ds : List D} {G0 : Hp} (h : SqL K G0 a xs) (r : Reps K G0 xs ds) : JOk Rep K (Itl K a) G0 ds := fun i G H s1 s2 => by
  have hq := (s1.trans s2).seq h
  have hl := r.length
  refine ⟨fun hi => ⟨xs, hq, by omega⟩, fun d hd => ?_⟩
  obtain ⟨v, h1, h2⟩ := r.get' hd
  refine ⟨⟨xs, v, hq, h1⟩, fun x H' ⟨e, k⟩ => ?_⟩
  subst e
  have := k xs hq
  rw [h1] at this
  cases this
  exact ⟨G, New.refl s2, h2.mono s1⟩
theorem jok_tup {a : Addr} {xs : List V} {ds : List D} {G0 : Hp} (h : TupG K G0 a xs) (r : Reps K G0 xs ds) : JOk Rep K (Itt K a) G0 ds := fun i G H s1 s2 => by
  have hq := seqT (s1.trans s2) h.sq
  have hl := r.length
  refine ⟨fun hi => ⟨xs, hq, by omega⟩, fun d hd => ?_⟩
  obtain ⟨v, h1, h2⟩ := r.get' hd
  refine ⟨⟨xs, v, hq, h1⟩, fun x H' ⟨e, k⟩ => ?_⟩
  subst e
  have := k xs hq
  rw [h1] at this
  cases this
  exact ⟨G, New.refl s2, h2.mono s1⟩
theorem jok_str {z : Str} {G0 : Hp} : JOk Rep K (Its z) G0 (charsD z) := fun i G H s1 s2 => by
  refine ⟨fun hi => ?_, fun d hd => ?_⟩
  · have : (charsD z).length = z.cps.size := by simp [charsD]
    show z.cps.size ≤ i
    omega
  · unfold charsD at hd
    rw [List.getElem?_map] at hd
    obtain ⟨c, h1, h2⟩ := Option.map_eq_some_iff.mp hd
    have h3 : z.cps[i]? = some c := by simpa using h1
    refine ⟨(Array.getElem?_eq_some_iff.mp h3).1, fun x H' ⟨e, c', k1, k2⟩ => ?_⟩
    subst e k2
    rw [h3] at k1
    cases k1
    exact ⟨G, New.refl s2, by rw [← h2]; exact .str _⟩
theorem fi_val {f : Vv} (he : PE X e (FV X.K f)) : PI X tg e (FI Rep X.K (itV f)) := by
  refine ⟨fun pins s σ H R I ⟨G, en, ds, en', S, e1, k⟩ => ?_⟩
  obtain ⟨⟨d, en1⟩, p1, e2⟩ := Option.bind_eq_some_iff.mp e1
  obtain ⟨ds', q1, q2⟩ := Option.map_eq_some_iff.mp e2
  cases q2
  refine thn (he.run pins s σ H (fun v H1 => ∃ G1, Step X.K en en1 σ G H G1 H1 ∧ Rep X.K G1 v d) I ⟨G, en, d, en1, S, p1, fun v G1 H1 T r => ⟨G1, T, r⟩⟩) fun u s1 ⟨v, H1, I1, rv, G1, T, r⟩ => ?_
  cases r with
  | tup h rr =>
    cases q1
    cases rv
    obtain ⟨its, ri, ht, hz⟩ := I1.tuple (seqT T.sr.sub h.sq)
    refine wpAny_pyIter_tuple (items := its.toArray) ht ?_
    exact pi_one (tk := s1.toks) I1 _ (turn_tuple _ _) ⟨_, Heap.get?_push_size _ rfl, rfl, rfl⟩ (k _ _ _ T (jok_tup h rr))
  | lst h rr =>
    cases q1
    cases rv
    obtain ⟨its, ri, ht, hz⟩ := I1.list (T.sr.sub.seq h)
    refine wpAny_pyIter_list ht.isList ?_
    exact pi_one (tk := s1.toks) I1 _ (turn_list _ _) ⟨_, Heap.get?_push_size _ rfl, rfl, rfl⟩ (k _ _ _ T (jok_list h rr))
  | str z =>
    cases q1
    obtain ⟨t, rfl⟩ := rv
    cases ha : z.cps.all (· < 128) with
    | true => exact wpAny_pyIter_ascii ha (pi_one (tk := s1.toks) I1 _ (turn_str _ z t "str_ascii_iterator" (.inl rfl)) ⟨_, Heap.get?_push_size _ rfl, rfl, rfl⟩ (k _ _ _ T jok_str))
    | false => exact wpAny_pyIter_wide ha (pi_one (tk := s1.toks) I1 _ (turn_str _ z t "str_iterator" (.inr rfl)) ⟨_, Heap.get?_push_size _ rfl, rfl, rfl⟩ (k _ _ _ T jok_str))
  | dct h rr => cases q1
  | non => cases q1
  | bl b => cases q1
  | int i => cases q1
/-- lo, lo + 1, .. -/
def rngD (lo c : Int) (n : Nat) : List D := (List.range n).map fun (i : Nat) => .int (lo + (i : Int) * c)
theorem jok_rng {lo c : Int} {n : Nat} {G0 : Hp} : JOk Rep K (Itc lo c n) G0 (rngD lo c n) := fun i G H s1 s2 => by
  have hl : (rngD lo c n).length = n := by simp [rngD]
  refine ⟨fun hi => by rw [hl] at hi; exact hi, fun d hd => ?_⟩
  unfold rngD at hd
  rw [List.getElem?_map] at hd
  obtain ⟨j, h1, h2⟩ := Option.map_eq_some_iff.mp hd
  obtain ⟨h3, h4⟩ := List.getElem?_eq_some_iff.mp h1
  rw [List.length_range] at h3
  rw [List.getElem_range] at h4
  subst h4 h2
  refine ⟨h3, fun x H' ⟨e, k⟩ => ?_⟩
  subst e k
  exact ⟨G, New.refl s2, .int _⟩
theorem jok_rng1 {lo : Int} {n : Nat} {G0 : Hp} : JOk Rep K (Itr lo n) G0 (rngD lo 1 n) := fun i G H s1 s2 => by
  obtain ⟨h1, h2⟩ := jok_rng (K := K) (lo := lo) (c := 1) (n := n) (G0 := G0) i G H s1 s2
  refine ⟨h1, fun d hd => ?_⟩
  obtain ⟨h3, h4⟩ := h2 d hd
  refine ⟨h3, fun x H' ⟨e, k⟩ => h4 x H' ⟨e, ?_⟩⟩
  rw [k, Int.mul_one]
def inLine (i : Int) : Bool := decide (-(2 ^ 62) ≤ i) && decide (i < 2 ^ 62)
theorem inLine_of {i : Int} (h : inLine i = true) : -(2 ^ 62) ≤ i ∧ i < 2 ^ 62 := by
  simpa [inLine] using h
def range1D : List D → Option (List D)
  | [.int j] => if inLine j = true then some (rngD 0 1 j.toNat) else none
  | _ => none
def range2D : List D → Option (List D)
  | [.int i, .int j] => if (inLine i && inLine j) = true then some (rngD i 1 (j - i).toNat) else none
  | _ => none
/-- downwards by ones -/
def range3D : List D → Option (List D)
  | [.int i, .int j, .int c] => if (inLine i && inLine j && decide (c = -1)) = true then some (rngD i (-1) (i - j).toNat) else none
  | _ => none
def itR (a : Av) (g : List D → Option (List D)) : Lv := fun en => (a en).bind fun x => (lates x.2 x.1).bind fun ds => (g ds).map fun r => (r, x.2)
theorem itR_of {a : Av} {g : List D → Option (List D)} {σ : St} {H : Hp} {R : It → Hp → Prop} (h : FI Rep K (itR a g) σ H R) : FA K a σ H fun vs H1 => ∃ G ds rs, Uses K G H1 vs ds ∧ g ds = some rs ∧ ∀ J, (∀ G0, JOk Rep K J G0 rs) → R J H1 := by
  obtain ⟨G, en, rs, en', S, e1, k⟩ := h
  obtain ⟨⟨hs, en1⟩, p1, e2⟩ := Option.bind_eq_some_iff.mp e1
  obtain ⟨ds, p2, e3⟩ := Option.bind_eq_some_iff.mp e2
  obtain ⟨rs', p3, e4⟩ := Option.map_eq_some_iff.mp e3
  cases e4
  exact ⟨G, en, hs, en1, S, p1, fun vs G1 H1 T r => ⟨G1, ds, rs, r.uses T.sr p2, p3, fun J hJ => k J G1 H1 T (hJ G1)⟩⟩
theorem fa_mono {a : Av} {σ : St} {H : Hp} {Q Q' : List V → Hp → Prop} (h : FA K a σ H Q) (k : ∀ vs H, Q vs H → Q' vs H) : FA K a σ H Q' :=
  let ⟨G, en, hs, en', S, e1, q⟩ := h
  ⟨G, en, hs, en', S, e1, fun vs G' H' T r => k vs H' (q vs G' H' T r)⟩
theorem fi_range1 {a : Expr} {l : Av} (hm : X.mg "range" = none) (ha : PA X [a] (FA X.K l)) (hg : Gl X "range" := by rfl) (hs : starEach [a] X.env = [(false, eval a X.env)] := by rfl) : PI X tg (.Call (.Name "range" p) [a] [] pos) (FI Rep X.K (itR l range1D)) :=
  pi_imp (pi_range1 hg hm ha hs) fun σ H R h => fa_mono (itR_of h) fun vs H1 ⟨G, ds, rs, u, e2, k2⟩ => by
    unfold range1D at e2
    split at e2
    · rename_i j
      obtain ⟨hl, e3⟩ := ite_some e2
      cases e3
      obtain ⟨v, rfl, u1⟩ := u.one
      obtain ⟨q1, q2⟩ := inLine_of hl
      exact ⟨j, by rw [u1.int], q1, q2, k2 _ fun _ => jok_rng1⟩
    · cases e2
theorem fi_range2 {a b : Expr} {l : Av} (hm : X.mg "range" = none) (ha : PA X [a, b] (FA X.K l)) (hg : Gl X "range" := by rfl) (hs : starEach [a, b] X.env = [(false, eval a X.env), (false, eval b X.env)] := by rfl) (hs2 : starEach [b] X.env = [(false, eval b X.env)] := by rfl) : PI X tg (.Call (.Name "range" p) [a, b] [] pos) (FI Rep X.K (itR l range2D)) :=
  pi_imp (pi_range2 hg hm ha hs hs2) fun σ H R h => fa_mono (itR_of h) fun vs H1 ⟨G, ds, rs, u, e2, k2⟩ => by
    unfold range2D at e2
    split at e2
    · rename_i i j
      obtain ⟨hl, e3⟩ := ite_some e2
      cases e3
      obtain ⟨v, w, rfl, u1, u2⟩ := u.two
      obtain ⟨h1, h2⟩ := Bool.and_eq_true_iff.mp hl
      obtain ⟨q1, q2⟩ := inLine_of h1
      obtain ⟨q3, q4⟩ := inLine_of h2
      exact ⟨i, j, by rw [u1.int, u2.int], ⟨q1, q2, q3, q4⟩, k2 _ fun _ => jok_rng1⟩
    · cases e2
theorem Uses.three {G H : Hp} {vs : List V} {a b c : D} (u : Uses K G H vs [a, b, c]) : ∃ v w z, vs = [v, w, z] ∧ Use K G H v a ∧ Use K G H w b ∧ Use K G H z c := by
  cases u with
  | cons h r => obtain ⟨w, z, rfl, h2, h3⟩ := r.two; exact ⟨_, _, _, rfl, h, h2, h3⟩
theorem fi_range3 {a b c : Expr} {l : Av} (hm : X.mg "range" = none) (ha : PA X [a, b, c] (FA X.K l)) (hg : Gl X "range" := by rfl) (hs : starEach [a, b, c] X.env = (false, eval a X.env) :: starEach [b, c] X.env := by rfl) (hpl : (backTo pos (starEach [b, c] X.env)).any (·.1) = false := by rfl) : PI X tg (.Call (.Name "range" p) [a, b, c] [] pos) (FI Rep X.K (itR l range3D)) :=
  pi_imp (pi_range3 hg hm ha hs hpl) fun σ H R h => fa_mono (itR_of h) fun vs H1 ⟨G, ds, rs, u, e2, k2⟩ => by
    unfold range3D at e2
    split at e2
    · rename_i i j c
      obtain ⟨hl, e3⟩ := ite_some e2
      cases e3
      obtain ⟨v, w, z, rfl, u1, u2, u3⟩ := u.three
      obtain ⟨h12, h3⟩ := Bool.and_eq_true_iff.mp hl
      obtain ⟨h1, h2⟩ := Bool.and_eq_true_iff.mp h12
      obtain ⟨q1, q2⟩ := inLine_of h1
      obtain ⟨q3, q4⟩ := inLine_of h2
      have hc : c = -1 := of_decide_eq_true h3
      exact ⟨i, j, -1, (i - j).toNat, by rw [u1.int, u2.int, u3.int, hc], RgC.neg q1 q2 q3 q4, k2 _ fun _ => jok_rng⟩
    · cases e2
end

/-! ### operators: numbers -/
section
variable {K : PySem.W.Frag}
def isI (g : Int → Int → Option D) : D → D → Option (D × Bool)
  | .int i, .int j => (g i j).map fun z => (z, false)
  | _, _ => none
theorem op2_int {r : R2} {g : Int → Int → Option D} (h : ∀ i j z (H : Hp) Q, g i j = some z → (∀ v, (∀ G, Rep K G v z) → Q v H) → r (.int i) (.int j) H Q) : Op2 K r (isI g) := by
  intro x y d e z b G H Q s u1 u2 hg k
  unfold isI at hg
  split at hg
  · rename_i i j
    obtain ⟨z', q1, q2⟩ := Option.map_eq_some_iff.mp hg
    cases q2
    rw [u1.int, u2.int]
    exact h i j z H Q q1 fun v hv => k v G H (New.refl s) (Fresh.sh (hv G))
  · cases hg
def iAdd : Int → Int → Option D := fun i j => some (.int (i + j))
def iSub : Int → Int → Option D := fun i j => some (.int (i - j))
def iMul : Int → Int → Option D := fun i j => if i.natAbs < 18446744073709551616 ∨ j.natAbs < 18446744073709551616 then some (.int (i * j)) else none
def iDiv : Int → Int → Option D := fun i j => if 0 < j ∧ j < 1073741824 then some (.int (i / j)) else none
def iMod : Int → Int → Option D := fun i j => if 0 < j then some (.int (i % j)) else none
def iPow : Int → Int → Option D := fun i j => if 0 ≤ j ∧ j ≤ 1000000 ∧ i.natAbs < 18446744073709551616 then some (.int (i ^ j.toNat)) else none
def iShl : Int → Int → Option D := fun i j => if 0 ≤ j ∧ j ≤ 1000000 ∧ i.natAbs < 18446744073709551616 then some (.int (i * 2 ^ j.toNat)) else none
def iLt : Int → Int → Option D := fun i j => some (.bool (decide (i < j)))
def iLe : Int → Int → Option D := fun i j => some (.bool (decide (i ≤ j)))
def iGt : Int → Int → Option D := fun i j => some (.bool (decide (j < i)))
def iGe : Int → Int → Option D := fun i j => some (.bool (decide (j ≤ i)))
theorem two64 {i : Int} (h : i.natAbs < 18446744073709551616) : -(2 ^ 64) < i ∧ i < 2 ^ 64 := by
  constructor <;> omega
theorem o2_sub : Op2 K (rI0 fun i j => .int (i - j)) (isI iSub) := op2_int fun i j z H Q e k => ⟨i, j, rfl, rfl, k _ (by cases e; exact fun _ => .int _)⟩
theorem o2_mulI : Op2 K (rI CMul fun i j => .int (i * j)) (isI iMul) := op2_int fun i j z H Q e k => by
  obtain ⟨h, e⟩ := ite_some e
  exact ⟨i, j, rfl, rfl, h.elim (fun h => .inl (two64 h)) (fun h => .inr (two64 h)), k _ (by cases e; exact fun _ => .int _)⟩
theorem o2_div : Op2 K (rI CDiv fun i j => .int (i / j)) (isI iDiv) := op2_int fun i j z H Q e k => by
  obtain ⟨h, e⟩ := ite_some e
  exact ⟨i, j, rfl, rfl, h, k _ (by cases e; exact fun _ => .int _)⟩
theorem o2_mod : Op2 K (rI (fun _ j => 0 < j) fun i j => .int (i % j)) (isI iMod) := op2_int fun i j z H Q e k => by
  obtain ⟨h, e⟩ := ite_some e
  exact ⟨i, j, rfl, rfl, h, k _ (by cases e; exact fun _ => .int _)⟩
theorem o2_pow : Op2 K (rI CPow fun i j => .int (i ^ j.toNat)) (isI iPow) := op2_int fun i j z H Q e k => by
  obtain ⟨h, e⟩ := ite_some e
  exact ⟨i, j, rfl, rfl, h, k _ (by cases e; exact fun _ => .int _)⟩
theorem o2_shl : Op2 K (rI CPow fun i j => .int (i * 2 ^ j.toNat)) (isI iShl) := op2_int fun i j z H Q e k => by
  obtain ⟨h, e⟩ := ite_some e
  exact ⟨i, j, rfl, rfl, h, k _ (by cases e; exact fun _ => .int _)⟩
theorem o2_ltI : Op2 K (rI0 fun i j => .bl (decide (i < j))) (isI iLt) := op2_int fun i j z H Q e k => ⟨i, j, rfl, rfl, k _ (by cases e; exact fun _ => .bl _)⟩
theorem o2_leI : Op2 K (rI0 fun i j => .bl (decide (i ≤ j))) (isI iLe) := op2_int fun i j z H Q e k => ⟨i, j, rfl, rfl, k _ (by cases e; exact fun _ => .bl _)⟩
theorem o2_gtI : Op2 K (rI0 fun i j => .bl (decide (j < i))) (isI iGt) := op2_int fun i j z H Q e k => ⟨i, j, rfl, rfl, k _ (by cases e; exact fun _ => .bl _)⟩
theorem o2_geI : Op2 K (rI0 fun i j => .bl (decide (j ≤ i))) (isI iGe) := op2_int fun i j z H Q e k => ⟨i, j, rfl, rfl, k _ (by cases e; exact fun _ => .bl _)⟩
def dNeg : D → Option (D × Bool)
  | .int i => some (.int (-i), false)
  | _ => none
theorem o1_neg : Op1 K (rU fun i => .int (-i)) dNeg := fun x d z b G H Q s u hg k => by
  unfold dNeg at hg
  split at hg
  · cases hg
    exact ⟨_, u.int, k _ G H (New.refl s) (Fresh.sh (.int _))⟩
  · cases hg

/-! ### +: numbers, lists, tuples, texts -/
/-- two lists of any standing -/
def rCatL (K : PySem.W.Frag) : R2 := fun x y H Q => ∃ l b xs zs, x = .ref l ∧ y = .ref b ∧ SqL K H l xs ∧ SqL K H b zs ∧ xs.length + zs.length ≤ sizeLine ∧ ∀ p, H p = none → Q (.ref p) (upd H p (.lst (xs ++ zs)))
theorem op_catL {X : Cx} : OpR X (binaryOp .Add) (rCatL X.K) := by
  intro pins s σ H x y v u Q I rx ry h
  obtain ⟨l, b, xs, zs, rfl, rfl, hL, hB, hz, q⟩ := h
  cases rx
  cases ry
  obtain ⟨its, r, ⟨⟨c1, d1, t1, s1⟩, n1, e1, f1, f2, f3⟩, z1⟩ := I.list hL
  obtain ⟨its2, r2, ⟨⟨c2, d2, t2, s2⟩, n2, e2, f4, f5, f6⟩, z2⟩ := I.list hB
  simp only at f1 f2 f3 f4 f5 f6
  subst f1 f2 f3 f4 f5 f6
  have hl1 := r.length
  have hl2 := r2.length
  refine concat_meets (s := s) ⟨_, e1, rfl⟩ ⟨_, e2, rfl⟩ PySem.noFill_list_add PySem.seq_list_add PySem.F.slot_list_add PySem.F.entry_list_add (PySem.F.args_list_add_2 _ _)
    (PyProof.Rows.list_addW l b its.toArray its2.toArray n1 n2 none none s1 s2 (by rw [List.size_toArray, List.size_toArray]; omega)) ⟨e1, e2, ?_⟩
  rw [List.append_toArray]
  exact ⟨.ref _, _, I.lnew (t' := s.toks) (r.append r2) (by rw [List.length_append]; omega), rfl, q _ I.fresh⟩
def dAdd : D → D → Option (D × Bool)
  | .int i, .int j => some (.int (i + j), false)
  | .list a, .list b => if a.length + b.length ≤ sizeLine then some (.list (a ++ b), true) else none
  | .tuple a, .tuple b => if a.length + b.length ≤ sizeLine then some (.tuple (a ++ b), false) else none
  | .str a, .str b => if a.length + b.length ≤ sizeLine then some (.str (a ++ b), false) else none
  | _, _ => none
/-- two tuples; what is new stands exact -/
def rCatZ (K : PySem.W.Frag) : R2 := fun x y H Q => ∃ a b xs ys, x = .ref a ∧ y = .ref b ∧ SqT K H a xs ∧ SqT K H b ys ∧ xs.length + ys.length ≤ sizeLine ∧
  (xs = [] → Q (.ref b) H) ∧ (xs ≠ [] → ys = [] → Q (.ref a) H) ∧ (xs ≠ [] → ys ≠ [] → ∀ p o, H p = none → o.dict = none → Q (.ref p) (upd H p (.frz o (.tup (xs ++ ys)))))
theorem op_catZ {X : Cx} : OpR X (binaryOp .Add) (rCatZ X.K) := by
  intro pins s σ H x y v u Q I rx ry h
  obtain ⟨a, b, xs, ys, rfl, rfl, ha, hb, hz, q0, q1, q2⟩ := h
  cases rx
  cases ry
  obtain ⟨its, r1, p1, z1⟩ := I.tuple ha
  obtain ⟨its2, r2, p2, z2⟩ := I.tuple hb
  have l1 := r1.length
  have l2 := r2.length
  by_cases hx : its = []
  · subst hx
    cases r1
    exact cat_tup0 p1 p2 ⟨.ref b, H, I, rfl, q0 rfl⟩
  · have hx' : xs ≠ [] := fun e => hx (by rw [e] at r1; cases r1; rfl)
    refine HT.cat_tup p1 p2 hx (fun e => ⟨.ref a, H, I, rfl, q1 hx' (by rw [e] at r2; cases r2; rfl)⟩) (fun e => ?_) (by omega)
    have hy' : ys ≠ [] := fun e' => e (by rw [e'] at r2; cases r2; rfl)
    exact ⟨.ref _, _, inv_tupZ I (r1.append r2) (by rw [List.length_append]; exact hz), rfl, q2 hx' hy' _ _ (I.hok.fresh (Nat.le_refl _)) rfl⟩
abbrev rAdd (K : PySem.W.Frag) : R2 := fun x y H Q => ((rI0 fun i j => .int (i + j)) x y H Q ∨ rCatL K x y H Q) ∨ (rCatZ K x y H Q ∨ ∃ i j, x = .str i ∧ y = .str j ∧ i.length + j.length ≤ sizeLine ∧ Q (.str (i ++ j)) H)
theorem op_addD {X : Cx} : OpR X (binaryOp .Add) (rAdd X.K) := (op_add.or op_catL).or (op_catZ.or op_add_str)
theorem o2_add : Op2 K (rAdd K) dAdd := fun x y d e z b G H Q s u1 u2 hg k => by
  unfold dAdd at hg
  split at hg
  · cases hg
    exact .inl (.inl ⟨_, _, u1.int, u2.int, k _ G H (New.refl s) (Fresh.sh (.int _))⟩)
  · obtain ⟨hl, e⟩ := ite_some hg
    cases e
    obtain ⟨a, xs, rfl, h1, r1⟩ := u1.list s
    obtain ⟨c, ys, rfl, h2, r2⟩ := u2.list s
    exact .inl (.inr ⟨a, c, xs, ys, rfl, rfl, h1, h2, by rw [r1.length, r2.length]; exact hl, fun p hp => k _ _ _ (New.own s hp) (Fresh.new s hp (.lst (r1.append r2)))⟩)
  · obtain ⟨hl, e⟩ := ite_some hg
    cases e
    obtain ⟨a, xs, rfl, h1, r1⟩ := u1.tupG
    obtain ⟨c, ys, rfl, h2, r2⟩ := u2.tupG
    refine .inr (.inl ⟨a, c, xs, ys, rfl, rfl, seqT s h1.sq, seqT s h2.sq, by rw [r1.length, r2.length]; exact hl, fun e => ?_, fun _ e => ?_, fun _ _ p o hp ho => ?_⟩)
    · subst e
      cases r1
      exact k _ G H (New.refl s) (Fresh.sh (.tup h2 r2))
    · subst e
      cases r2
      rw [List.append_nil] at k
      exact k _ G H (New.refl s) (Fresh.sh (.tup h1 r1))
    · have N := New.shd (o := .frz o (.tup (xs ++ ys))) s hp
      exact k _ _ _ N (Fresh.sh (.tup (.inl ⟨o, upd_same, ho⟩) ((r1.append r2).mono N.ext.g)))
  · obtain ⟨hl, e⟩ := ite_some hg
    cases e
    exact .inr (.inr ⟨_, _, u1.str, u2.str, hl, k _ G H (New.refl s) (Fresh.sh (.str _))⟩)
  · cases hg

/-! ### x[i], x[i:j] -/
def dIx : D → D → Option (D × Bool)
  | .list ds, .int i => (atI ds i).map fun z => (z, false)
  | .tuple ds, .int i => (atI ds i).map fun z => (z, false)
  | .str z, .int i => if z.length ≤ sizeLine then (atI z.cps.toList i).map fun c => (.str ⟨#[c]⟩, false) else none
  | _, _ => none
theorem atI_reps {G : Hp} {xs : List V} {ds : List D} {i : Int} {d : D} (r : Reps K G xs ds) (h : atI ds i = some d) : ∃ v, atI xs i = some v ∧ Rep K G v d := by
  unfold atI at h ⊢
  obtain ⟨j, h1, h2⟩ := Option.bind_eq_some_iff.mp h
  obtain ⟨v, h3, h4⟩ := r.get' h2
  exact ⟨v, by rw [r.length, h1]; exact h3, h4⟩
theorem o2_ix : Op2 K (rIx K) dIx := fun x y d e z b G H Q s u1 u2 hg k => by
  unfold dIx at hg
  split at hg
  · obtain ⟨z', h1, h2⟩ := Option.map_eq_some_iff.mp hg
    cases h2
    obtain ⟨a, xs, rfl, h3, r⟩ := u1.list s
    obtain ⟨v, h4, h5⟩ := atI_reps r h1
    exact .inl ⟨a, xs, _, v, rfl, u2.int, h3, h4, k v G H (New.refl s) (Fresh.sh h5)⟩
  · obtain ⟨z', h1, h2⟩ := Option.map_eq_some_iff.mp hg
    cases h2
    obtain ⟨a, xs, rfl, h3, r⟩ := u1.tuple s
    obtain ⟨v, h4, h5⟩ := atI_reps r h1
    exact .inr (.inl ⟨a, xs, _, v, rfl, u2.int, h3, h4, k v G H (New.refl s) (Fresh.sh h5)⟩)
  · obtain ⟨hl, hg⟩ := ite_some hg
    obtain ⟨c, h1, h2⟩ := Option.map_eq_some_iff.mp hg
    cases h2
    exact .inr (.inr ⟨_, _, c, u1.str, u2.int, hl, h1, k _ G H (New.refl s) (Fresh.sh (.str _))⟩)
  · cases hg
def cutD {α : Type} (xs : List α) (lo hi : Option Int) : List α := (xs.drop (HT.sIx xs.length 0 lo)).take (HT.sIx xs.length xs.length hi - HT.sIx xs.length 0 lo)
theorem cut_reps {G : Hp} {xs : List V} {ds : List D} {lo hi : Option Int} (r : Reps K G xs ds) : Reps K G (cutV xs lo hi) (cutD ds lo hi) := by
  unfold cutV cutD
  rw [r.length]
  exact (r.drop _).take _
def dSl : D → Option Int → Option Int → Option (D × Bool)
  | .list ds, l, h => some (.list (cutD ds l h), true)
  | .tuple ds, l, h => some (.tuple (cutD ds l h), false)
  | _, _, _ => none
def rSlZ (K : PySem.W.Frag) : V → Option Int → Option Int → Hp → VK → Prop := fun x lo hi H Q => ∃ a xs, x = .ref a ∧ SqT K H a xs ∧
  (HT.sIx xs.length 0 lo = 0 ∧ HT.sIx xs.length xs.length hi = xs.length → Q (.ref a) H) ∧ (¬ (HT.sIx xs.length 0 lo = 0 ∧ HT.sIx xs.length xs.length hi = xs.length) → ∀ p o, H p = none → o.dict = none → Q (.ref p) (upd H p (.frz o (.tup (cutV xs lo hi)))))
theorem sl_Z {X : Cx} : SlR X (rSlZ X.K) := by
  intro pins s σ H x v vl vu lo hi sl Q I rx hs pl pu h
  obtain ⟨a, xs, rfl, hx, q1, q2⟩ := h
  cases rx
  obtain ⟨its, r, ht, hz⟩ := I.tuple hx
  have hlen : its.toArray.size = xs.length := by rw [List.size_toArray]; exact r.length.symm
  refine ⟨"tuple", _, PyProof.Rows.slot_tuple_getitem.lookup, ht.typeIs, ?_⟩
  by_cases hw : HT.sIx xs.length 0 lo = 0 ∧ HT.sIx xs.length xs.length hi = xs.length
  · exact getItem_tuple_whole ht hs pl pu (by rw [hlen]; exact hw) ⟨.ref a, H, I, rfl, q1 hw⟩
  · refine HT.getItem_tuple_cut ht hs pl pu (by rw [hlen]; exact hw) ?_ (by rw [hlen]; exact hz)
    have e : xs.length = its.length := r.length
    have rr : Vals (cutV xs lo hi) ((its.toArray.toList.drop (HT.sIx its.toArray.size 0 lo)).take (HT.sIx its.toArray.size its.toArray.size hi - HT.sIx its.toArray.size 0 lo)) := by
      rw [hlen]
      unfold cutV
      exact (Vals.drop _ (by simpa using r)).take _
    exact ⟨.ref _, _, inv_tupZ I rr (Nat.le_trans (cutV_length xs lo hi) hz), rfl, q2 hw _ _ (I.hok.fresh (Nat.le_refl _)) rfl⟩
abbrev rSlD (K : PySem.W.Frag) : V → Option Int → Option Int → Hp → VK → Prop := fun x lo hi H Q => rSlL K x lo hi H Q ∨ rSlZ K x lo hi H Q
theorem sl_D {X : Cx} : SlR X (rSlD X.K) := sl_list.or sl_Z
theorem os_sl : OpS K (rSlD K) dSl := fun x d l h z b G H Q s u hg k => by
  unfold dSl at hg
  split at hg
  · cases hg
    obtain ⟨a, xs, rfl, h1, r⟩ := u.list s
    exact .inl ⟨a, xs, rfl, h1, fun p hp => k _ _ _ (New.own s hp) (Fresh.new s hp (.lst (cut_reps r)))⟩
  · cases hg
    rename_i ds
    obtain ⟨a, xs, rfl, h1, r⟩ := u.tupG
    refine .inr ⟨a, xs, rfl, seqT s h1.sq, fun hh => ?_, fun _ p o hp ho => ?_⟩
    · have e : cutD ds l h = ds := by
        unfold cutD
        rw [r.length] at hh
        rw [hh.1, hh.2, List.drop_zero, Nat.sub_zero, List.take_length]
      rw [e] at k
      exact k _ G H (New.refl s) (Fresh.sh (.tup h1 r))
    · have N := New.shd (o := .frz o (.tup (cutV xs l h))) s hp
      exact k _ _ _ N (Fresh.sh (.tup (.inl ⟨o, upd_same, ho⟩) ((cut_reps r).mono N.ext.g)))
  · cases hg

/-! ### ==, in -/
mutual
theorem Rep.dp {H : Hp} : ∀ {v : V} {d : D}, Rep K H v d → d.canLay0 = true → Dp K H v d
  | _, _, .non, _ => .non
  | _, _, .bl b, _ => .bl b
  | _, _, .int i, _ => .int i
  | _, _, .str x, _ => .str x
  | _, _, .tup h r, c => .tup h.sq (Reps.dp r (by rw [PyData.canLay0] at c; exact c))
  | _, _, .lst h r, c => .lst h (Reps.dp r (by rw [PyData.canLay0] at c; exact c))
  | _, _, .dct _ _, c => by rw [PyData.canLay0] at c; cases c
theorem Reps.dp {H : Hp} : ∀ {v : List V} {d : List D}, Reps K H v d → PyData.canLayAll0 d = true → DpAll K H v d
  | _, _, .nil, _ => .nil
  | _, _, .cons h r, c => by
    rw [PyData.canLayAll0, Bool.and_eq_true_iff] at c
    exact .cons (Rep.dp h c.1) (Reps.dp r c.2)
end
theorem Use.dp {G H : Hp} {v : V} {d : D} (s : Same G H) (u : Use K G H v d) (c : d.canLay0 = true) : Dp K H v d := by
  rcases u with u | ⟨a, o, rfl, h, r⟩
  · exact (u.mono s).dp c
  · cases r with
    | lst r => exact .lst (.inl (.inl h)) ((r.mono s).dp (by rw [PyData.canLay0] at c; exact c))
    | dK r => rw [PyData.canLay0] at c; cases c
def dEq (d e : D) : Option (D × Bool) := if (SeqAt.shaped d && SeqAt.shaped e) = true then some (.bool (PyData.eqv d e), false) else none
def dNe (d e : D) : Option (D × Bool) := if (SeqAt.shaped d && SeqAt.shaped e) = true then some (.bool (!PyData.eqv d e), false) else none
theorem o2_eq : Op2 K (rEqD K) dEq := fun x y d e z b G H Q s u1 u2 hg k => by
  obtain ⟨hl, e1⟩ := ite_some hg
  cases e1
  obtain ⟨h1, h2⟩ := Bool.and_eq_true_iff.mp hl
  exact ⟨d, e, u1.dp s (SeqAt.canLay_of_shaped h1), u2.dp s (SeqAt.canLay_of_shaped h2), h1, h2, k _ G H (New.refl s) (Fresh.sh (.bl _))⟩
theorem o2_ne : Op2 K (rNeD K) dNe := fun x y d e z b G H Q s u1 u2 hg k => by
  obtain ⟨hl, e1⟩ := ite_some hg
  cases e1
  obtain ⟨h1, h2⟩ := Bool.and_eq_true_iff.mp hl
  exact ⟨d, e, u1.dp s (SeqAt.canLay_of_shaped h1), u2.dp s (SeqAt.canLay_of_shaped h2), h1, h2, k _ G H (New.refl s) (Fresh.sh (.bl _))⟩
/-- is there, by data: a list, a tuple, a text's part -/
def rInT (K : PySem.W.Frag) (neg : Bool) : R2 := fun x y H Q => ∃ d ds, Dp K H x d ∧ Dp K H y (.tuple ds) ∧ SeqAt.shaped d = true ∧ SeqAt.shaped (.tuple ds) = true ∧ Q (.bl (if neg then !ds.any fun z => PyData.eqv z d else ds.any fun z => PyData.eqv z d)) H
theorem op_inT {X : Cx} (hu : X.A.units + 65 < cLine) : OpR X (compareOp .In) (rInT X.K false) := by
  intro pins s σ H x y v u Q I rx ry h
  obtain ⟨d, ds, hd, he, sd, se, q⟩ := h
  obtain ⟨as, r1⟩ := Dp.reads I d x v hd rx
  obtain ⟨bs, r2⟩ := Dp.reads I (.tuple ds) y u he ry
  have c := SeqAt.canLay_of_shaped se
  rw [PyData.canLay0] at c
  refine SeqAt.in_tuple_reads r2 r1 c (SeqAt.canLay_of_shaped sd) ?_ ⟨.bl _, H, I, rfl, q⟩
  have : d.depth ≤ 64 := of_decide_eq_true (Bool.and_eq_true_iff.mp sd).2
  omega
theorem op_notInT {X : Cx} (hu : X.A.units + 65 < cLine) : OpR X (compareOp .NotIn) (rInT X.K true) := by
  intro pins s σ H x y v u Q I rx ry h
  obtain ⟨d, ds, hd, he, sd, se, q⟩ := h
  obtain ⟨as, r1⟩ := Dp.reads I d x v hd rx
  obtain ⟨bs, r2⟩ := Dp.reads I (.tuple ds) y u he ry
  have c := SeqAt.canLay_of_shaped se
  rw [PyData.canLay0] at c
  refine SeqAt.notIn_tuple_reads r2 r1 c (SeqAt.canLay_of_shaped sd) ?_ ⟨.bl _, H, I, rfl, q⟩
  have : d.depth ≤ 64 := of_decide_eq_true (Bool.and_eq_true_iff.mp sd).2
  omega
end
end Fx
/-! Fx7: dicts, what is in what, built-in functions. -/
namespace Fx
open PySem PySem.Spec L2
def keyOf : D → Option Key
  | .int i => some (.inl i)
  | .str x => some (.inr x)
  | _ => none
theorem keyOf_kD (k : Key) : keyOf (kD k) = some k := by cases k <;> rfl
def dictGet (es : List (D × D)) (k : Key) : Option D := (es.find? fun p => decide (keyOf p.1 = some k)).map (·.2)
def dictPut (es : List (D × D)) (k : Key) (d : D) : List (D × D) := if (es.any fun p => decide (keyOf p.1 = some k)) = true then es.map (fun p => if keyOf p.1 = some k then (p.1, d) else p) else es ++ [(kD k, d)]
def dictDrop (es : List (D × D)) (k : Key) : List (D × D) := es.filter fun p => decide (keyOf p.1 ≠ some k)
section
variable {K : PySem.W.Frag} {G H : Hp}
theorem RepKV.length : ∀ {kvs : List (Key × V)} {es : List (D × D)}, RepKV K G kvs es → kvs.length = es.length
  | _, _, .nil => rfl
  | _, _, .cons _ r => congrArg Nat.succ (RepKV.length r)
theorem key_dec (k j : Key) : decide (keyOf (kD j) = some k) = decide (j = k) := by
  rw [keyOf_kD]
  by_cases h : j = k
  · rw [h]; simp
  · rw [decide_eq_false h, decide_eq_false]
    exact fun e => h (Option.some.inj e)
theorem RepKV.get (k : Key) : ∀ {kvs : List (Key × V)} {es : List (D × D)}, RepKV K G kvs es → (valV kvs k = none ∧ dictGet es k = none) ∨ ∃ v d, valV kvs k = some v ∧ dictGet es k = some d ∧ Rep K G v d
  | _, _, .nil => .inl ⟨rfl, rfl⟩
  | _, _, .cons (k := j) (v := v) (d := d) (r := r) (s := s) h t => by
    have e : decide (keyOf (kD j) = some k) = decide (j = k) := key_dec k j
    by_cases hj : j = k
    · refine .inr ⟨v, d, valV_pos hj, ?_, h⟩
      unfold dictGet
      rw [List.find?_cons]
      show Option.map _ (match decide (keyOf (kD j) = some k) with | true => _ | false => _) = _
      rw [e, decide_eq_true hj]
      rfl
    · have e2 : dictGet ((kD j, d) :: s) k = dictGet s k := by
        unfold dictGet
        rw [List.find?_cons]
        show Option.map _ (match decide (keyOf (kD j) = some k) with | true => _ | false => _) = _
        rw [e, decide_eq_false hj]
      rw [valV_neg (p := (j, v)) hj, e2]
      exact RepKV.get k t
theorem RepKV.any (k : Key) : ∀ {kvs : List (Key × V)} {es : List (D × D)}, RepKV K G kvs es → (kvs.any fun kv => decide (kv.1 = k)) = es.any fun p => decide (keyOf p.1 = some k)
  | _, _, .nil => rfl
  | _, _, .cons (k := j) h t => by
    rw [List.any_cons, List.any_cons, RepKV.any k t]
    show (decide (j = k) || _) = (decide (keyOf (kD j) = some k) || _)
    rw [key_dec]
theorem RepKV.repl (k : Key) {v : V} {d : D} (h : Rep K G v d) : ∀ {kvs : List (Key × V)} {es : List (D × D)}, RepKV K G kvs es → RepKV K G (kvs.map fun kv => if kv.1 = k then (kv.1, v) else kv) (es.map fun p => if keyOf p.1 = some k then (p.1, d) else p)
  | _, _, .nil => .nil
  | _, _, .cons (k := j) (v := w) (d := e) q t => by
    rw [List.map_cons, List.map_cons]
    by_cases hj : j = k
    · show RepKV K G ((if j = k then (j, v) else (j, w)) :: _) ((if keyOf (kD j) = some k then (kD j, d) else (kD j, e)) :: _)
      rw [if_pos hj, if_pos (by rw [keyOf_kD, hj])]
      exact .cons h (RepKV.repl k h t)
    · show RepKV K G ((if j = k then (j, v) else (j, w)) :: _) ((if keyOf (kD j) = some k then (kD j, d) else (kD j, e)) :: _)
      rw [if_neg hj, if_neg (by rw [keyOf_kD]; exact fun z => hj (Option.some.inj z))]
      exact .cons q (RepKV.repl k h t)
theorem RepKV.append : ∀ {kvs kvs' : List (Key × V)} {es es' : List (D × D)}, RepKV K G kvs es → RepKV K G kvs' es' → RepKV K G (kvs ++ kvs') (es ++ es')
  | _, _, _, _, .nil, s => s
  | _, _, _, _, .cons h t, s => .cons h (RepKV.append t s)
theorem RepKV.put (k : Key) {v : V} {d : D} {kvs : List (Key × V)} {es : List (D × D)} (r : RepKV K G kvs es) (h : Rep K G v d) : RepKV K G (putK kvs k v) (dictPut es k d) := by
  unfold putK dictPut
  rw [r.any k]
  by_cases c : (es.any fun p => decide (keyOf p.1 = some k)) = true
  · rw [if_pos c, if_pos c]
    exact r.repl k h
  · rw [if_neg c, if_neg c]
    exact r.append (.cons h .nil)
theorem RepKV.drop (k : Key) : ∀ {kvs : List (Key × V)} {es : List (D × D)}, RepKV K G kvs es → RepKV K G (dropK kvs k) (dictDrop es k)
  | _, _, .nil => .nil
  | _, _, .cons (k := j) (v := w) (d := e) (r := r) (s := s) q t => by
    have ih := RepKV.drop k t
    unfold dropK dictDrop at ih ⊢
    rw [List.filter_cons, List.filter_cons]
    show RepKV K G (if decide (j ≠ k) = true then _ else _) (if decide (keyOf (kD j) ≠ some k) = true then _ else _)
    by_cases hj : j = k
    · rw [if_neg (by simp [hj]), if_neg (by simp [keyOf_kD, hj])]
      exact ih
    · rw [if_pos (by simp [hj]), if_pos (by rw [keyOf_kD]; simp [hj])]
      exact .cons q ih
theorem keyV {v : V} {d : D} {k : Key} (u : Use K G H v d) (h : keyOf d = some k) : v = kV k := by
  unfold keyOf at h
  split at h
  · cases h
    exact u.int
  · cases h
    exact u.str
  · cases h
theorem dget_of {a : Addr} {kvs : List (Key × V)} {k : Key} (h : Rd H a (.dK kvs)) : DGet H a (kV k) (valV kvs k) := .inl ⟨kvs, k, h, rfl, rfl⟩
end
/-! ### d[k], k in d -/
def rIxDD : R2 := fun x y H Q => ∃ a v, x = .ref a ∧ DGet H a y (some v) ∧ Q v H
theorem ix_dict {X : Cx} (hu : X.A.units + 1 < cLine) : IxR X rIxDD := by
  intro value slice pins s σ H x y v u Q I rx ry h hs
  obtain ⟨a, z, rfl, g, q⟩ := h
  cases rx
  exact PyProof.Rows.tail_any (dict_typeIs I g) PySem.F.slot_dict_getitem.lookup (d_getItem hu I g ry fun w' s3 I3 rw' => ⟨z, H, I3, rw', q⟩) hs
section
variable {K : PySem.W.Frag} {X : Cx}
/-- a subscript of anything -/
def dIxA : D → D → Option (D × Bool)
  | .dict es, k => (keyOf k).bind fun k => (dictGet es k).map fun d => (d, false)
  | x, k => dIx x k
abbrev rIxA (K : PySem.W.Frag) : R2 := fun x y H Q => rIx K x y H Q ∨ rIxDD x y H Q
theorem ix_A (hu : X.A.units + 1 < cLine) : IxR X (rIxA X.K) := ix_seq.or (ix_dict hu)
theorem o2_ixA : Op2 K (rIxA K) dIxA := fun x y d e z b G H Q s u1 u2 hg k => by
  cases d with
  | dict es =>
    obtain ⟨kk, h1, h2⟩ := Option.bind_eq_some_iff.mp (show ((keyOf e).bind fun k => (dictGet es k).map fun d => (d, false)) = some (z, b) from hg)
    obtain ⟨d', h3, h4⟩ := Option.map_eq_some_iff.mp h2
    cases h4
    obtain ⟨a, kvs, rfl, h5, r⟩ := u1.dict s
    rcases r.get kk with ⟨_, w⟩ | ⟨v, d2, w1, w2, w3⟩
    · rw [w] at h3
      cases h3
    · rw [w2] at h3
      cases h3
      exact .inr ⟨a, v, rfl, by rw [keyV u2 h1, ← w1]; exact dget_of h5, k v G H (New.refl s) (Fresh.sh w3)⟩
  | none => exact .inl (o2_ix x y _ e z b G H Q s u1 u2 hg k)
  | bool _ => exact .inl (o2_ix x y _ e z b G H Q s u1 u2 hg k)
  | int _ => exact .inl (o2_ix x y _ e z b G H Q s u1 u2 hg k)
  | str _ => exact .inl (o2_ix x y _ e z b G H Q s u1 u2 hg k)
  | list _ => exact .inl (o2_ix x y _ e z b G H Q s u1 u2 hg k)
  | tuple _ => exact .inl (o2_ix x y _ e z b G H Q s u1 u2 hg k)
def rInDD (neg : Bool) : R2 := fun x y H Q => ∃ a o, y = .ref a ∧ DGet H a x o ∧ Q (.bl (if neg then !o.isSome else o.isSome)) H
theorem op_inDD (hu : X.A.units + 1 < cLine) : OpR X (compareOp .In) (rInDD false) := by
  intro pins s σ H x y v u Q I rx ry h
  obtain ⟨a, o, rfl, g, q⟩ := h
  cases ry
  exact d_in hu I g rx fun s' I' => ⟨.bl o.isSome, H, I', rfl, q⟩
theorem op_notInDD (hu : X.A.units + 1 < cLine) : OpR X (compareOp .NotIn) (rInDD true) := by
  intro pins s σ H x y v u Q I rx ry h
  obtain ⟨a, o, rfl, g, q⟩ := h
  cases ry
  exact d_notIn hu I g rx fun s' I' => ⟨.bl (!o.isSome), H, I', rfl, q⟩
abbrev rInSg (neg : Bool) : R2 := fun x y H Q => ∃ (c : Nat) (z : Str), x = .str ⟨#[c]⟩ ∧ y = .str z ∧ Q (.bl (if neg then !decide (c ∈ z.cps.toList) else decide (c ∈ z.cps.toList))) H
theorem op_inSg : OpR X (compareOp .In) (rInSg false) := op_in_sign
theorem op_notInSg : OpR X (compareOp .NotIn) (rInSg true) := op_notIn_sign
/-- a text of one sign -/
def one1 : D → Option Nat
  | .str x => match x.cps.toList with
    | [c] => some c
    | _ => none
  | _ => none
theorem one1_of {d : D} {c : Nat} (h : one1 d = some c) : d = .str ⟨#[c]⟩ := by
  unfold one1 at h
  split at h
  · rename_i x
    split at h
    · rename_i c' q
      cases h
      obtain ⟨⟨l⟩⟩ := x
      have q' : l = [c] := q
      rw [q']
    · cases h
  · cases h
/-- is it there -/
def memD (x : D) : D → Option Bool
  | .list ds => if (SeqAt.shaped x && SeqAt.shaped (.list ds)) = true then some (ds.any fun z => PyData.eqv z x) else none
  | .tuple ds => if (SeqAt.shaped x && SeqAt.shaped (.tuple ds)) = true then some (ds.any fun z => PyData.eqv z x) else none
  | .dict es => (keyOf x).map fun k => (dictGet es k).isSome
  | .str z => (one1 x).map fun c => decide (c ∈ z.cps.toList)
  | _ => none
def dIn (x y : D) : Option (D × Bool) := (memD x y).map fun b => (.bool b, false)
def dNotIn (x y : D) : Option (D × Bool) := (memD x y).map fun b => (.bool (!b), false)
abbrev rInA (K : PySem.W.Frag) : R2 := fun x y H Q => (rInD K x y H Q ∨ rInT K false x y H Q) ∨ (rInDD false x y H Q ∨ rInSg false x y H Q)
abbrev rNotInA (K : PySem.W.Frag) : R2 := fun x y H Q => (rNotInD K x y H Q ∨ rInT K true x y H Q) ∨ (rInDD true x y H Q ∨ rInSg true x y H Q)
theorem op_inA (hu : X.A.units + 65 < cLine) : OpR X (compareOp .In) (rInA X.K) := ((op_inD hu).or (op_inT hu)).or ((op_inDD (by omega)).or op_inSg)
theorem op_notInA (hu : X.A.units + 65 < cLine) : OpR X (compareOp .NotIn) (rNotInA X.K) := ((op_notInD hu).or (op_notInT hu)).or ((op_notInDD (by omega)).or op_notInSg)
theorem memD_cases {x y : V} {d e : D} {c : Bool} {G H : Hp} (s : Same G H) (u1 : Use K G H x d) (u2 : Use K G H y e) (h : memD d e = some c) :
    (∃ ds, e = .list ds ∧ Dp K H x d ∧ Dp K H y e ∧ SeqAt.shaped d = true ∧ SeqAt.shaped e = true ∧ c = ds.any fun z => PyData.eqv z d) ∨
    (∃ ds, e = .tuple ds ∧ Dp K H x d ∧ Dp K H y e ∧ SeqAt.shaped d = true ∧ SeqAt.shaped e = true ∧ c = ds.any fun z => PyData.eqv z d) ∨
    (∃ a o, y = .ref a ∧ DGet H a x o ∧ c = o.isSome) ∨ (∃ (k : Nat) (z : Str), x = .str ⟨#[k]⟩ ∧ y = .str z ∧ c = decide (k ∈ z.cps.toList)) := by
  unfold memD at h
  split at h
  · obtain ⟨hl, h⟩ := ite_some h
    cases h
    obtain ⟨h1, h2⟩ := Bool.and_eq_true_iff.mp hl
    exact .inl ⟨_, rfl, u1.dp s (SeqAt.canLay_of_shaped h1), u2.dp s (SeqAt.canLay_of_shaped h2), h1, h2, rfl⟩
  · obtain ⟨hl, h⟩ := ite_some h
    cases h
    obtain ⟨h1, h2⟩ := Bool.and_eq_true_iff.mp hl
    exact .inr (.inl ⟨_, rfl, u1.dp s (SeqAt.canLay_of_shaped h1), u2.dp s (SeqAt.canLay_of_shaped h2), h1, h2, rfl⟩)
  · obtain ⟨k, h1, h2⟩ := Option.map_eq_some_iff.mp h
    obtain ⟨a, kvs, rfl, h5, r⟩ := u2.dict s
    refine .inr (.inr (.inl ⟨a, valV kvs k, rfl, by rw [keyV u1 h1]; exact dget_of h5, ?_⟩))
    rcases r.get k with ⟨w1, w2⟩ | ⟨v, d2, w1, w2, w3⟩
    · rw [w1, ← h2, w2]; rfl
    · rw [w1, ← h2, w2]; rfl
  · obtain ⟨n, h1, h2⟩ := Option.map_eq_some_iff.mp h
    have e := one1_of h1
    subst e
    exact .inr (.inr (.inr ⟨_, _, u1.str, u2.str, h2.symm⟩))
  · cases h
theorem o2_in : Op2 K (rInA K) dIn := fun x y d e z b G H Q s u1 u2 hg k => by
  obtain ⟨c, h1, h2⟩ := Option.map_eq_some_iff.mp hg
  cases h2
  have q := k _ G H (New.refl s) (Fresh.sh (.bl c))
  rcases memD_cases s u1 u2 h1 with ⟨ds, rfl, a1, a2, a3, a4, rfl⟩ | ⟨ds, rfl, a1, a2, a3, a4, rfl⟩ | ⟨a, o, rfl, g, rfl⟩ | ⟨n, w, rfl, rfl, rfl⟩
  · exact .inl (.inl ⟨_, ds, a1, a2, a3, a4, q⟩)
  · exact .inl (.inr ⟨_, ds, a1, a2, a3, a4, q⟩)
  · exact .inr (.inl ⟨a, o, rfl, g, q⟩)
  · exact .inr (.inr ⟨n, w, rfl, rfl, q⟩)
theorem o2_notIn : Op2 K (rNotInA K) dNotIn := fun x y d e z b G H Q s u1 u2 hg k => by
  obtain ⟨c, h1, h2⟩ := Option.map_eq_some_iff.mp hg
  cases h2
  have q := k _ G H (New.refl s) (Fresh.sh (.bl (!c)))
  rcases memD_cases s u1 u2 h1 with ⟨ds, rfl, a1, a2, a3, a4, rfl⟩ | ⟨ds, rfl, a1, a2, a3, a4, rfl⟩ | ⟨a, o, rfl, g, rfl⟩ | ⟨n, w, rfl, rfl, rfl⟩
  · exact .inl (.inl ⟨_, ds, a1, a2, a3, a4, q⟩)
  · exact .inl (.inr ⟨_, ds, a1, a2, a3, a4, q⟩)
  · exact .inr (.inl ⟨a, o, rfl, g, q⟩)
  · exact .inr (.inr ⟨n, w, rfl, rfl, q⟩)

/-! ### is None, is True -/
def rIsB (neg : Bool) (c : Bool) : R2 := fun x y H Q => y = .bl c ∧ (∀ n, x ≠ .ty n) ∧ (Q (.bl (if neg then !decide (x = .bl c) else decide (x = .bl c))) H)
theorem val_bl {x : V} {v : Value} {c : Bool} (r : RelV x v) : (v == Value.bool c) = decide (x = .bl c) := by
  cases x with
  | non => cases r; rfl
  | bl b =>
    cases r
    by_cases h : b = c
    · subst h; simp
    · rw [decide_eq_false (fun z => h (V.bl.inj z))]
      exact beq_false_of_ne fun z => h (Value.bool.inj z)
  | int _ => obtain ⟨t, rfl⟩ := r; rfl
  | str _ => obtain ⟨t, rfl⟩ := r; rfl
  | byt _ => obtain ⟨t, rfl⟩ := r; rfl
  | flt _ => obtain ⟨t, rfl⟩ := r; rfl
  | ref _ => cases r; rfl
  | ty _ => cases r; rfl
theorem op_isB {c : Bool} : OpR X (compareOp .Is) (rIsB false c) := by
  intro pins s σ H x y v u Q I rx ry h
  obtain ⟨rfl, hn, q⟩ := h
  cases ry
  have e := val_bl (c := c) rx
  have fin : EP X pins σ Q (.bool (v == Value.bool c)) s := ⟨.bl (decide (x = .bl c)), H, I, by rw [e]; rfl, q⟩
  cases x with
  | ty n => exact absurd rfl (hn n)
  | non => cases rx; exact wpAny_pure fin
  | bl b => cases rx; exact wpAny_pure fin
  | int _ => obtain ⟨t, rfl⟩ := rx; exact wpAny_pure fin
  | str _ => obtain ⟨t, rfl⟩ := rx; exact wpAny_pure fin
  | byt _ => obtain ⟨t, rfl⟩ := rx; exact wpAny_pure fin
  | flt _ => obtain ⟨t, rfl⟩ := rx; exact wpAny_pure fin
  | ref _ => cases rx; exact wpAny_pure fin
theorem op_isNotB {c : Bool} : OpR X (compareOp .IsNot) (rIsB true c) := by
  intro pins s σ H x y v u Q I rx ry h
  obtain ⟨rfl, hn, q⟩ := h
  cases ry
  have e := val_bl (c := c) rx
  have fin : EP X pins σ Q (.bool (!(v == Value.bool c))) s := ⟨.bl (!decide (x = .bl c)), H, I, by rw [e]; rfl, q⟩
  cases x with
  | ty n => exact absurd rfl (hn n)
  | non => cases rx; exact wpAny_pure fin
  | bl b => cases rx; exact wpAny_pure fin
  | int _ => obtain ⟨t, rfl⟩ := rx; exact wpAny_pure fin
  | str _ => obtain ⟨t, rfl⟩ := rx; exact wpAny_pure fin
  | byt _ => obtain ⟨t, rfl⟩ := rx; exact wpAny_pure fin
  | flt _ => obtain ⟨t, rfl⟩ := rx; exact wpAny_pure fin
  | ref _ => cases rx; exact wpAny_pure fin
def isBD (c : Bool) : D → Bool
  | .bool b => b == c
  | _ => false
def isND : D → Bool
  | .none => true
  | _ => false
theorem use_ty {G H : Hp} {x : V} {d : D} (u : Use K G H x d) : ∀ n, x ≠ .ty n := fun n e => by
  subst e
  rcases u with u | ⟨a, o, e, _⟩
  · cases u
  · cases e
theorem use_bl {G H : Hp} {x : V} {d : D} {c : Bool} (u : Use K G H x d) : decide (x = .bl c) = isBD c d := by
  cases d with
  | bool b =>
    rw [u.bool]
    by_cases h : b = c
    · subst h; simp [isBD]
    · rw [decide_eq_false (fun z => h (V.bl.inj z))]
      exact (beq_false_of_ne h).symm
  | none => rw [u.none]; rfl
  | int i => rw [u.int]; rfl
  | str z => rw [u.str]; rfl
  | list ds =>
    refine decide_eq_false fun e => ?_
    subst e
    rcases u with u | ⟨a, o, e, _⟩
    · cases u
    · cases e
  | tuple ds =>
    refine decide_eq_false fun e => ?_
    subst e
    rcases u with u | ⟨a, o, e, _⟩
    · cases u
    · cases e
  | dict ds =>
    refine decide_eq_false fun e => ?_
    subst e
    rcases u with u | ⟨a, o, e, _⟩
    · cases u
    · cases e
theorem use_non {G H : Hp} {x : V} {d : D} (u : Use K G H x d) : decide (x = .non) = isND d := by
  cases d with
  | none => rw [u.none]; rfl
  | bool b => rw [u.bool]; rfl
  | int i => rw [u.int]; rfl
  | str z => rw [u.str]; rfl
  | list ds =>
    refine decide_eq_false fun e => ?_
    subst e
    rcases u with u | ⟨a, o, e, _⟩
    · cases u
    · cases e
  | tuple ds =>
    refine decide_eq_false fun e => ?_
    subst e
    rcases u with u | ⟨a, o, e, _⟩
    · cases u
    · cases e
  | dict ds =>
    refine decide_eq_false fun e => ?_
    subst e
    rcases u with u | ⟨a, o, e, _⟩
    · cases u
    · cases e
def fIs (p : Ov) (g : D → Bool) : Ev := f1 p fun d => some (.bool (g d), false)
theorem t2c_of {p : Ov} {r : R2} {c : V} {g : D → Bool} {σ : St} {H : Hp} {Q : VK} (hr : ∀ x d G H Q, Use K G H x d → Q (.bl (g d)) H → r x c H Q) (h : FE K (fIs p g) σ H Q) : tOp r (FO K p) (tC c) σ H Q := by
  obtain ⟨G, en, z, b, en', S, e1, k⟩ := h
  obtain ⟨⟨x, en1⟩, p1, e2⟩ := Option.bind_eq_some_iff.mp e1
  obtain ⟨d, p3, e4⟩ := Option.bind_eq_some_iff.mp e2
  cases e4
  exact ⟨G, en, x, _, S, p1, fun v G1 H1 T1 r1 => hr v d G1 H1 Q (r1.use T1.sr p3) (k _ G1 H1 T1 (Rep.bl _))⟩
variable {a b : Expr} {pos pos' : Pos}
theorem fe_isN {p : Ov} {j} (ha : PE X a (FO X.K p)) : PE X (.Compare a [.Is] [.Constant .none j pos'] pos) (FE X.K (fIs p isND)) :=
  pe_imp (pe_cmpR op_isN ha pe_non rfl) fun _ _ _ h => t2c_of (fun x d G H Q u q => ⟨rfl, by rw [use_non u]; exact q⟩) h
theorem fe_notN {p : Ov} {j} (ha : PE X a (FO X.K p)) : PE X (.Compare a [.IsNot] [.Constant .none j pos'] pos) (FE X.K (fIs p fun d => !isND d)) :=
  pe_imp (pe_cmpR op_notN ha pe_non rfl) fun _ _ _ h => t2c_of (fun x d G H Q u q => ⟨rfl, by rw [use_non u]; exact q⟩) h
theorem fe_isB {p : Ov} {c : Bool} {j} (ha : PE X a (FO X.K p)) : PE X (.Compare a [.Is] [.Constant (.bool c) j pos'] pos) (FE X.K (fIs p (isBD c))) :=
  pe_imp (pe_cmpR op_isB ha pe_bl rfl) fun _ _ _ h => t2c_of (fun x d G H Q u q => ⟨rfl, use_ty u, by rw [use_bl u]; exact q⟩) h
theorem fe_isNotB {p : Ov} {c : Bool} {j} (ha : PE X a (FO X.K p)) : PE X (.Compare a [.IsNot] [.Constant (.bool c) j pos'] pos) (FE X.K (fIs p fun d => !isBD c d)) :=
  pe_imp (pe_cmpR op_isNotB ha pe_bl rfl) fun _ _ _ h => t2c_of (fun x d G H Q u q => ⟨rfl, use_ty u, by rw [use_bl u]; exact q⟩) h

/-! ### isinstance -/
def tyD : D → String
  | .none => "NoneType"
  | .bool _ => "bool"
  | .int _ => "int"
  | .str _ => "str"
  | .list _ => "list"
  | .tuple _ => "tuple"
  | .dict _ => "dict"
theorem use_tyx {G H : Hp} {x : V} {d : D} (s : Same G H) (u : Use K G H x d) : TyX K H x (.type (tyD d)) := by
  cases d with
  | none => rw [u.none]; exact .base .non
  | bool b => rw [u.bool]; exact .base (.bl b)
  | int i => rw [u.int]; exact .base (.int i)
  | str z => rw [u.str]; exact .base (.str z)
  | list ds =>
    obtain ⟨a, xs, rfl, h, _⟩ := u.list s
    rcases h with (h | ⟨o, h⟩) | ⟨o, its, n, h, hc, _⟩
    · exact .base (.lst h)
    · exact .base (.frz h)
    · exact .kList h hc
  | tuple ds =>
    obtain ⟨a, xs, rfl, h, _⟩ := u.tuple s
    rcases h with (h | ⟨o, h⟩) | ⟨o, its, n, h, hc, _⟩
    · exact .base (.tup h)
    · exact .fTuple h
    · exact .kTuple h hc
  | dict es =>
    obtain ⟨a, kvs, rfl, h, _⟩ := u.dict s
    rcases h with h | ⟨o, h⟩
    · exact .base (.dK h)
    · exact .fDict h
def isT (T : String) (d : D) : Bool := (kitB (tyD d) T).getD false
def fIsi (p : Ov) (T : String) : Ev := f1 p fun d => (kitB (tyD d) T).map fun b => (.bool b, false)
theorem fe_isi {p : Ov} {T : String} {y : Str} {p1 p2 : Pos} (ha : PE X a (FO X.K p)) (hm : X.mg "isinstance" = none) (hT : X.mg y = none) (hv : bootBuiltins y = some (.type T) := by decide +kernel) (hg : Gl X "isinstance" := by rfl) (hgT : Gl X y := by rfl) (hn : y ≠ "__name__" := by decide) (hd : (y == ("__debug__" : Str)) = false := by decide)
    (he : starEach [a, .Name y p2] X.env = (false, eval a X.env) :: starEach [.Name y p2] X.env := by rfl) (he2 : starEach [.Name y p2] X.env = (false, eval (.Name y p2) X.env) :: starEach [] X.env := by rfl) (hpl : (backTo pos (starEach [.Name y p2] X.env)).any (·.1) = false := by rfl) :
    PE X (.Call (.Name "isinstance" p1) [a, .Name y p2] [] pos) (FE X.K (fIsi p T)) :=
  pe_imp (pe_callB call_isi hg hm (by decide +kernel) (pa_cons ha (pa_cons (pe_bltn (v := .ty T) hgT hT hv rfl hn hd) pa_nil he2) he) (by decide) (by decide) he hpl) fun σ H Q ⟨G, en, z, b, en', S, e1, k⟩ => by
    obtain ⟨⟨x, en1⟩, q1, e2⟩ := Option.bind_eq_some_iff.mp e1
    obtain ⟨d, q3, e4⟩ := Option.bind_eq_some_iff.mp e2
    obtain ⟨w, e5, e6⟩ := Option.map_eq_some_iff.mp e4
    obtain ⟨c, e7, e8⟩ := Option.map_eq_some_iff.mp e5
    cases e8
    cases e6
    exact ⟨G, en, x, _, S, q1, fun v G1 H1 T1 r1 => ⟨v, _, _, _, c, rfl, .ty T, use_tyx T1.sr.sub (r1.use T1.sr q3), kit_ty e7, k _ G1 H1 T1 (Rep.bl c)⟩⟩
end
end Fx
/-! Fx8: calls of built-ins, dicts that are made. -/
namespace Fx
open PySem PySem.Spec L2
section
variable {K : PySem.W.Frag} {X : Cx} {a b e : Expr} {pos p : Pos}
/-! ### len, abs, int, max, min -/
def lenD : D → Option Nat
  | .list ds => some ds.length
  | .tuple ds => some ds.length
  | .str z => if z.length ≤ sizeLine then some z.length else none
  | .dict es => some es.length
  | _ => none
def dLen : List D → Option (D × Bool)
  | [d] => (lenD d).map fun n => (.int (n : Nat), false)
  | _ => none
abbrev rLenA (K : PySem.W.Frag) : List V → Hp → VK → Prop := fun xs H Q => (∃ x n, xs = [x] ∧ LenV K x H n ∧ Q (.int (n : Nat)) H) ∨ (∃ a kvs, xs = [.ref a] ∧ Rd H a (.dK kvs) ∧ Q (.int (kvs.length : Nat)) H)
theorem cr_lenA : CallR X (.builtin "len") (rLenA X.K) := by
  refine call_len.or ?_
  intro pins s σ H xs us Q I r ⟨a, kvs, e, h, q⟩
  subst e
  obtain ⟨u, rfl, rx⟩ := Vals.one r
  cases rx
  exact d_len I h fun t s' I' => ⟨.int (kvs.length : Nat), H, I', ⟨t, rfl⟩, q⟩
theorem on_len : OpN K (rLenA K) dLen := fun vs ds z b G H Q s u hg k => by
  unfold dLen at hg
  split at hg
  · obtain ⟨n, h1, h2⟩ := Option.map_eq_some_iff.mp hg
    cases h2
    obtain ⟨v, rfl, u0⟩ := u.one
    have q := k (.int (n : Nat)) G H (New.refl s) (Fresh.sh (.int _))
    unfold lenD at h1
    split at h1
    · cases h1
      obtain ⟨a, xs, rfl, h, r⟩ := u0.list s
      exact .inl ⟨_, _, rfl, .inl ⟨xs, h, r.length.symm⟩, q⟩
    · cases h1
      obtain ⟨a, xs, rfl, h, r⟩ := u0.tuple s
      exact .inl ⟨_, _, rfl, .inr ⟨xs, h, r.length.symm⟩, q⟩
    · obtain ⟨hl, h1⟩ := ite_some h1
      cases h1
      rw [u0.str]
      exact .inl ⟨_, _, rfl, ⟨hl, rfl⟩, q⟩
    · cases h1
      obtain ⟨a, kvs, rfl, h, r⟩ := u0.dict s
      exact .inr ⟨a, kvs, rfl, h, by rw [r.length]; exact q⟩
    · cases h1
  · cases hg
def dAbs : List D → Option (D × Bool)
  | [.int i] => some (.int (if i < 0 then -i else i), false)
  | _ => none
theorem on_abs : OpN K (fun xs H Q => ∃ i, xs = [V.int i] ∧ Q (V.int (if i < 0 then -i else i)) H) dAbs := fun vs ds z b G H Q s u hg k => by
  unfold dAbs at hg
  split at hg
  · cases hg
    obtain ⟨v, rfl, u0⟩ := u.one
    exact ⟨_, by rw [u0.int], k _ G H (New.refl s) (Fresh.sh (.int _))⟩
  · cases hg
def dInt : List D → Option (D × Bool)
  | [.int i] => some (.int i, false)
  | [.bool c] => some (.int (if c = true then 1 else 0), false)
  | _ => none
theorem on_int : OpN K (fun xs H Q => (∃ i, xs = [V.int i] ∧ Q (V.int i) H) ∨ ∃ k, xs = [V.bl k] ∧ Q (V.int (if k = true then 1 else 0)) H) dInt := fun vs ds z b G H Q s u hg k => by
  unfold dInt at hg
  split at hg
  · cases hg
    obtain ⟨v, rfl, u0⟩ := u.one
    exact .inl ⟨_, by rw [u0.int], k _ G H (New.refl s) (Fresh.sh (.int _))⟩
  · cases hg
    obtain ⟨v, rfl, u0⟩ := u.one
    exact .inr ⟨_, by rw [u0.bool], k _ G H (New.refl s) (Fresh.sh (.int _))⟩
  · cases hg
def dMax2 : List D → Option (D × Bool)
  | [.int i, .int j] => some (.int (if j > i then j else i), false)
  | _ => none
def dMin2 : List D → Option (D × Bool)
  | [.int i, .int j] => some (.int (if j < i then j else i), false)
  | _ => none
theorem on_max2 : OpN K (fun xs H Q => ∃ i j, xs = [V.int i, V.int j] ∧ Q (V.int (if j > i then j else i)) H) dMax2 := fun vs ds z b G H Q s u hg k => by
  unfold dMax2 at hg
  split at hg
  · cases hg
    obtain ⟨v, w, rfl, u1, u2⟩ := u.two
    exact ⟨_, _, by rw [u1.int, u2.int], k _ G H (New.refl s) (Fresh.sh (.int _))⟩
  · cases hg
theorem on_min2 : OpN K (fun xs H Q => ∃ i j, xs = [V.int i, V.int j] ∧ Q (V.int (if j < i then j else i)) H) dMin2 := fun vs ds z b G H Q s u hg k => by
  unfold dMin2 at hg
  split at hg
  · cases hg
    obtain ⟨v, w, rfl, u1, u2⟩ := u.two
    exact ⟨_, _, by rw [u1.int, u2.int], k _ G H (New.refl s) (Fresh.sh (.int _))⟩
  · cases hg
/-- a list of ints, of bools -/
def intsD : List D → Option (List Int)
  | [] => some []
  | .int i :: r => (intsD r).map fun is => i :: is
  | _ => none
def boolsD : List D → Option (List Bool)
  | [] => some []
  | .bool i :: r => (boolsD r).map fun is => i :: is
  | _ => none
theorem intsD_of {G : Hp} : ∀ {xs : List V} {ds : List D} {is : List Int}, Reps K G xs ds → intsD ds = some is → xs = is.map V.int
  | _, _, _, .nil, h => by cases h; rfl
  | _, _, is, .cons (d := d) h t, e => by
    cases d <;> first | (cases e; done) | skip
    obtain ⟨js, h1, h2⟩ := Option.map_eq_some_iff.mp e
    subst h2
    cases h
    rw [intsD_of t h1]
    rfl
theorem boolsD_of {G : Hp} : ∀ {xs : List V} {ds : List D} {is : List Bool}, Reps K G xs ds → boolsD ds = some is → xs = is.map V.bl
  | _, _, _, .nil, h => by cases h; rfl
  | _, _, is, .cons (d := d) h t, e => by
    cases d <;> first | (cases e; done) | skip
    obtain ⟨js, h1, h2⟩ := Option.map_eq_some_iff.mp e
    subst h2
    cases h
    rw [boolsD_of t h1]
    rfl
def dAll : List D → Option (D × Bool)
  | [.list ds] => (boolsD ds).map fun bs => (.bool (bs.all id), false)
  | _ => none
def dAny : List D → Option (D × Bool)
  | [.list ds] => (boolsD ds).map fun bs => (.bool (bs.any id), false)
  | _ => none
def dSum : List D → Option (D × Bool)
  | [.list ds] => (intsD ds).map fun is => (.int is.sum, false)
  | _ => none
theorem on_all : OpN K (rAll K) dAll := fun vs ds z b G H Q s u hg k => by
  unfold dAll at hg
  split at hg
  · obtain ⟨bs, h1, h2⟩ := Option.map_eq_some_iff.mp hg
    cases h2
    obtain ⟨v, rfl, u0⟩ := u.one
    obtain ⟨a, xs, rfl, h, r⟩ := u0.list s
    exact ⟨a, bs, rfl, by rw [← boolsD_of r h1]; exact h, k _ G H (New.refl s) (Fresh.sh (.bl _))⟩
  · cases hg
theorem on_any : OpN K (rAny K) dAny := fun vs ds z b G H Q s u hg k => by
  unfold dAny at hg
  split at hg
  · obtain ⟨bs, h1, h2⟩ := Option.map_eq_some_iff.mp hg
    cases h2
    obtain ⟨v, rfl, u0⟩ := u.one
    obtain ⟨a, xs, rfl, h, r⟩ := u0.list s
    exact ⟨a, bs, rfl, by rw [← boolsD_of r h1]; exact h, k _ G H (New.refl s) (Fresh.sh (.bl _))⟩
  · cases hg
theorem on_sum : OpN K (rSum K) dSum := fun vs ds z b G H Q s u hg k => by
  unfold dSum at hg
  split at hg
  · obtain ⟨bs, h1, h2⟩ := Option.map_eq_some_iff.mp hg
    cases h2
    obtain ⟨v, rfl, u0⟩ := u.one
    obtain ⟨a, xs, rfl, h, r⟩ := u0.list s
    exact ⟨a, bs, rfl, by rw [← intsD_of r h1]; exact h, k _ G H (New.refl s) (Fresh.sh (.int _))⟩
  · cases hg
/-- the greatest, the least of a list -/
def maxI : List Int → Option Int
  | [] => none
  | i :: r => some (r.foldl (fun m j => if j > m then j else m) i)
def minI : List Int → Option Int
  | [] => none
  | i :: r => some (r.foldl (fun m j => if j < m then j else m) i)
theorem maxI_is {is : List Int} {m : Int} (h : maxI is = some m) : 0 < is.length ∧ m ∈ is ∧ ∀ j ∈ is, j ≤ m := by
  cases is with
  | nil => cases h
  | cons i r =>
    have go : ∀ (r : List Int) (i : Int), (r.foldl (fun m j => if j > m then j else m) i) ∈ i :: r ∧ ∀ j ∈ i :: r, j ≤ r.foldl (fun m j => if j > m then j else m) i := by
      intro r
      induction r with
      | nil => intro i; exact ⟨List.mem_cons_self .., fun j hj => by simp at hj; rw [hj]; exact Int.le_refl _⟩
      | cons c r ih =>
        intro i
        rw [List.foldl_cons]
        obtain ⟨h1, h2⟩ := ih (if c > i then c else i)
        refine ⟨?_, fun j hj => ?_⟩
        · rcases List.mem_cons.mp h1 with h1 | h1
          · rw [h1]
            by_cases hc : c > i
            · rw [if_pos hc]; simp
            · rw [if_neg hc]; simp
          · exact List.mem_cons_of_mem _ (List.mem_cons_of_mem _ h1)
        · have b0 := h2 _ (List.mem_cons_self ..)
          rcases List.mem_cons.mp hj with rfl | hj
          · by_cases hc : c > j
            · rw [if_pos hc] at b0 ⊢; omega
            · rw [if_neg hc] at b0 ⊢; exact b0
          · rcases List.mem_cons.mp hj with rfl | hj
            · by_cases hc : j > i
              · rw [if_pos hc] at b0 ⊢; exact b0
              · rw [if_neg hc] at b0 ⊢; omega
            · exact h2 j (List.mem_cons_of_mem _ hj)
    cases h
    exact ⟨Nat.succ_pos _, (go r i).1, (go r i).2⟩
theorem minI_is {is : List Int} {m : Int} (h : minI is = some m) : 0 < is.length ∧ m ∈ is ∧ ∀ j ∈ is, m ≤ j := by
  cases is with
  | nil => cases h
  | cons i r =>
    have go : ∀ (r : List Int) (i : Int), (r.foldl (fun m j => if j < m then j else m) i) ∈ i :: r ∧ ∀ j ∈ i :: r, r.foldl (fun m j => if j < m then j else m) i ≤ j := by
      intro r
      induction r with
      | nil => intro i; exact ⟨List.mem_cons_self .., fun j hj => by simp at hj; rw [hj]; exact Int.le_refl _⟩
      | cons c r ih =>
        intro i
        rw [List.foldl_cons]
        obtain ⟨h1, h2⟩ := ih (if c < i then c else i)
        refine ⟨?_, fun j hj => ?_⟩
        · rcases List.mem_cons.mp h1 with h1 | h1
          · rw [h1]
            by_cases hc : c < i
            · rw [if_pos hc]; simp
            · rw [if_neg hc]; simp
          · exact List.mem_cons_of_mem _ (List.mem_cons_of_mem _ h1)
        · have b0 := h2 _ (List.mem_cons_self ..)
          rcases List.mem_cons.mp hj with rfl | hj
          · by_cases hc : c < j
            · rw [if_pos hc] at b0 ⊢; omega
            · rw [if_neg hc] at b0 ⊢; exact b0
          · rcases List.mem_cons.mp hj with rfl | hj
            · by_cases hc : j < i
              · rw [if_pos hc] at b0 ⊢; exact b0
              · rw [if_neg hc] at b0 ⊢; omega
            · exact h2 j (List.mem_cons_of_mem _ hj)
    cases h
    exact ⟨Nat.succ_pos _, (go r i).1, (go r i).2⟩
def dMaxI : List D → Option (D × Bool)
  | [.list ds] => (intsD ds).bind fun is => (maxI is).map fun m => (.int m, false)
  | _ => none
def dMinI : List D → Option (D × Bool)
  | [.list ds] => (intsD ds).bind fun is => (minI is).map fun m => (.int m, false)
  | _ => none
theorem on_maxI : OpN K (rMax K) dMaxI := fun vs ds z b G H Q s u hg k => by
  unfold dMaxI at hg
  split at hg
  · obtain ⟨is, h1, h2⟩ := Option.bind_eq_some_iff.mp hg
    obtain ⟨m, h3, h4⟩ := Option.map_eq_some_iff.mp h2
    cases h4
    obtain ⟨v, rfl, u0⟩ := u.one
    obtain ⟨a, xs, rfl, h, r⟩ := u0.list s
    obtain ⟨w1, w2, w3⟩ := maxI_is h3
    refine ⟨a, is, rfl, by rw [← intsD_of r h1]; exact h, w1, fun m' h5 h6 => ?_⟩
    have e : m' = m := by have := w3 m' h5; have := h6 m w2; omega
    rw [e]
    exact k _ G H (New.refl s) (Fresh.sh (.int _))
  · cases hg
theorem on_minI : OpN K (rMin K) dMinI := fun vs ds z b G H Q s u hg k => by
  unfold dMinI at hg
  split at hg
  · obtain ⟨is, h1, h2⟩ := Option.bind_eq_some_iff.mp hg
    obtain ⟨m, h3, h4⟩ := Option.map_eq_some_iff.mp h2
    cases h4
    obtain ⟨v, rfl, u0⟩ := u.one
    obtain ⟨a, xs, rfl, h, r⟩ := u0.list s
    obtain ⟨w1, w2, w3⟩ := minI_is h3
    refine ⟨a, is, rfl, by rw [← intsD_of r h1]; exact h, w1, fun m' h5 h6 => ?_⟩
    have e : m' = m := by have := w3 m' h5; have := h6 m w2; omega
    rw [e]
    exact k _ G H (New.refl s) (Fresh.sh (.int _))
  · cases hg

/-! ### list(x), tuple(x) -/
def dList : List D → Option (D × Bool)
  | [.list ds] => some (.list ds, true)
  | [.tuple ds] => some (.list ds, true)
  | _ => none
theorem on_list : OpN K (fun xs H Q => ∃ p ys, xs = [V.ref p] ∧ (SqL K H p ys ∨ SqT K H p ys) ∧ ∀ l, H l = none → Q (.ref l) (upd H l (.lst ys))) dList := fun vs ds z b G H Q s u hg k => by
  unfold dList at hg
  split at hg
  · cases hg
    obtain ⟨v, rfl, u0⟩ := u.one
    obtain ⟨a, xs, rfl, h, r⟩ := u0.list s
    exact ⟨a, xs, rfl, .inl h, fun p hp => k _ _ _ (New.own s hp) (Fresh.new s hp (.lst r))⟩
  · cases hg
    obtain ⟨v, rfl, u0⟩ := u.one
    obtain ⟨a, xs, rfl, h, r⟩ := u0.tuple s
    exact ⟨a, xs, rfl, .inr h, fun p hp => k _ _ _ (New.own s hp) (Fresh.new s hp (.lst r))⟩
  · cases hg
def rTupOf (K : PySem.W.Frag) : List V → Hp → VK → Prop := fun xs H Q => ∃ p ys, xs = [V.ref p] ∧ ((SqL K H p ys ∧ ∀ l o, H l = none → o.dict = none → Q (.ref l) (upd H l (.frz o (.tup ys)))) ∨ (SqT K H p ys ∧ Q (.ref p) H))
theorem cr_tupOf : CallR X (.type "tuple") (rTupOf X.K) := by
  intro pins s σ H xs us Q I r ⟨p, ys, ex, h⟩
  subst ex
  obtain ⟨u, rfl, rx⟩ := Vals.one r
  cases rx
  rcases h with ⟨hq, q⟩ | ⟨hq, q⟩
  · obtain ⟨its, r', pl, hz⟩ := I.list hq
    have hlen := r'.length
    refine call_tuple_list pl.isList (fun h' kp => ?_) (by rw [List.size_toArray]; omega)
    have I1 : Inv X pins σ H { s with heap := h' } := I.kept (t' := s.toks) kp
    exact ⟨.ref _, _, inv_tupZ I1 r' hz, rfl, q _ _ (I1.hok.fresh (Nat.le_refl _)) rfl⟩
  · obtain ⟨its, r', pl, hz⟩ := I.tuple hq
    exact call_tuple_same pl ⟨.ref p, H, I, rfl, q⟩
def dTuple : List D → Option (D × Bool)
  | [.list ds] => some (.tuple ds, false)
  | [.tuple ds] => some (.tuple ds, false)
  | _ => none
theorem on_tuple : OpN K (rTupOf K) dTuple := fun vs ds z b G H Q s u hg k => by
  unfold dTuple at hg
  split at hg
  · cases hg
    obtain ⟨v, rfl, u0⟩ := u.one
    obtain ⟨a, xs, rfl, h, r⟩ := u0.list s
    refine ⟨a, xs, rfl, .inl ⟨h, fun p o hp ho => ?_⟩⟩
    have N := New.shd (o := .frz o (.tup xs)) s hp
    exact k _ _ _ N (Fresh.sh (.tup (.inl ⟨o, upd_same, ho⟩) (r.mono N.ext.g)))
  · cases hg
    obtain ⟨v, rfl, u0⟩ := u.one
    obtain ⟨a, xs, rfl, h, r⟩ := u0.tupG
    exact ⟨a, xs, rfl, .inr ⟨seqT s h.sq, k _ G H (New.refl s) (Fresh.sh (.tup h r))⟩⟩
  · cases hg

/-! ### dicts that are made -/
theorem fe_dnew : PE X (.Dict [] [] pos) (FE X.K fun en => some (.dict [], true, en)) := pe_imp pe_dnewK fun σ H Q ⟨G, en, d, b, en', S, e1, k⟩ => by
  cases e1
  intro q hq
  have N := New.own (o := .dK []) S.sub hq
  exact k _ _ _ (N.step S) (Fresh.res S (Fresh.new S.sub hq (.dK .nil)))
def pairsOf : List D → Option (List (Key × D))
  | [] => some []
  | .tuple [k, v] :: r => (keyOf k).bind fun k => (pairsOf r).map fun t => (k, v) :: t
  | _ => none
def mergeD (es : List (D × D)) (kvs : List (Key × D)) : List (D × D) := kvs.foldl (fun acc kv => dictPut acc kv.1 kv.2) es
inductive RepPs (K : PySem.W.Frag) (G : Hp) : List (Key × V) → List (Key × D) → Prop
  | nil : RepPs K G [] []
  | cons {k : Key} {v : V} {d : D} {r : List (Key × V)} {t : List (Key × D)} : Rep K G v d → RepPs K G r t → RepPs K G ((k, v) :: r) ((k, d) :: t)
theorem RepPs.merge {G : Hp} : ∀ {kvs : List (Key × V)} {ps : List (Key × D)} {acc : List (Key × V)} {es : List (D × D)}, RepPs K G kvs ps → RepKV K G acc es → RepKV K G (mergeK acc kvs) (mergeD es ps)
  | _, _, _, _, .nil, r => r
  | _, _, _, _, .cons (k := k) (v := v) (d := d) (r := rr) (t := tt) h t, r => by
    show RepKV K G (mergeK (mergeK _ [(k, v)]) rr) (mergeD (dictPut _ k d) tt)
    exact RepPs.merge t (by rename_i acc es; exact (r.put k h : RepKV K G (putK acc k v) (dictPut es k d)))
theorem pairs_reps {G H : Hp} (s : Same G H) : ∀ {xs : List V} {ds : List D} {ps : List (Key × D)}, Reps K G xs ds → pairsOf ds = some ps → ∃ (as : List Addr) (kvs : List (Key × V)), xs = as.map V.ref ∧ RepPs K G kvs ps ∧ Paired (fun p kv => SqT K H p [kV kv.1, kv.2]) as kvs
  | _, _, _, .nil, h => by cases h; exact ⟨[], [], rfl, .nil, .nil⟩
  | _, _, ps, .cons (d := d) h t, e => by
    cases d <;> first | (cases e; done) | skip
    rename_i l
    match l, h, e with
    | [kd, vd], h, e =>
      obtain ⟨k, h1, h2⟩ := Option.bind_eq_some_iff.mp e
      obtain ⟨t', h3, h4⟩ := Option.map_eq_some_iff.mp h2
      subst h4
      cases h with
      | tup hg hr =>
        cases hr with
        | cons r1 r2 =>
          cases r2 with
          | cons r2 r3 =>
            cases r3
            have e1 := keyV (H := H) (.inl r1) h1
            subst e1
            obtain ⟨as, kvs, w1, w2, w3⟩ := pairs_reps s t h3
            exact ⟨_ :: as, (k, _) :: kvs, by rw [w1]; rfl, .cons r2 w2, .cons (seqT s hg.sq) w3⟩
def rDictOf (K : PySem.W.Frag) : List V → Hp → VK → Prop := fun xs H Q => (∃ a kvs, xs = [V.ref a] ∧ Rd H a (.dK kvs) ∧ ∀ p, H p = none → Q (.ref p) (upd H p (.dK kvs))) ∨
  (∃ (a : Addr) (ps : List Addr) (kvs : List (Key × V)), xs = [V.ref a] ∧ (SqL K H a (ps.map V.ref) ∨ TupG K H a (ps.map V.ref)) ∧ Paired (fun p kv => SqT K H p [kV kv.1, kv.2]) ps kvs ∧ ∀ p, H p = none → Q (.ref p) (upd H p (.dK (mergeK [] kvs))))
theorem cr_dictOf (hc : X.calm = true) : CallR X (.type "dict") (rDictOf X.K) := by
  intro pins s σ H xs us Q I r h
  rcases h with ⟨a, kvs, ex, h, q⟩ | ⟨a, ps, kvs, ex, h | h, hp, q⟩
  · subst ex
    obtain ⟨u, rfl, rx⟩ := Vals.one r
    cases rx
    exact d_copyOf I h fun p s' hn I' => ⟨.ref p, _, I', rfl, q p hn⟩
  · exact call_dictP hc pins s σ H xs us Q I r ⟨a, ps, kvs, ex, h, hp, q⟩
  · subst ex
    obtain ⟨u, rfl, rx⟩ := Vals.one r
    cases rx
    obtain ⟨its, rv, pl, hz⟩ := I.tuple h.sq
    have ei := refs_at rv
    rw [List.length_map] at hz
    obtain ⟨prs, rel, hl, hpr⟩ := pairs_of I hp
    -- the tuple's object has no dict of its own
    have hseq : PlainSeq "tuple" s.heap a its.toArray := by
      obtain ⟨o, ho, hcls, n, hd⟩ := pl
      refine ⟨o, n, ho, hcls, ?_, hd⟩
      rcases h with ⟨o', h1, h2⟩ | ⟨o', its', n', h1, h2, h3, h4⟩
      · obtain ⟨e1, _⟩ := I.hok a _ h1
        rw [ho] at e1
        cases e1
        exact h2
      · have e1 := I.kIn a o' h1
        rw [ho] at e1
        cases e1
        exact h3
    have hU : ∀ j : Nat, ∃ u : Value, ∀ q' : Key × Value, prs[j]? = some q' → ∃ b : Addr, ps[j]? = some b ∧ PyProof.Rows.IsTup s.heap b #[u, q'.2] ∧ keyIs q'.1 u = true := by
      intro j
      cases e : (prs[j]? : Option (Key × Value)) with
      | none => exact ⟨.none, fun _ z => by cases z⟩
      | some q' =>
        obtain ⟨b, u, e1, e2, e3⟩ := hpr j q' e
        exact ⟨u, fun q2 z => by cases z; exact ⟨b, e1, e2, e3⟩⟩
    have hU2 := fun j => (hU j).choose_spec
    refine PySem.call_dict_pairs (knd := mixKind X.prog X.w) (kvs := prs) (PairArg.tuple a its.toArray (fun j => ps.getD j 0) (prs.mapIdx fun j q => ((hU j).choose, q.2))) (I.ok.hd hc) ⟨hseq, ?_, fun j kk v e => ?_⟩ ⟨?_, fun j kk v e => ?_⟩ ?_ fun h' tk hd' kp => ?_
    · rw [ei]; simp [hl]
    · rw [List.getElem?_mapIdx] at e
      obtain ⟨q', e1, e2⟩ := Option.map_eq_some_iff.mp e
      cases e2
      obtain ⟨b, w1, w2, w3⟩ := hU2 j q' e1
      refine ⟨?_, .inl ?_⟩
      · rw [ei]; simp [w1]
      · show s.heap.IsTuple (ps.getD j 0) _
        rw [show ps.getD j 0 = b by rw [List.getD_eq_getElem?_getD, w1]; rfl]
        exact w2
    · simp
    · have e' : (prs.mapIdx fun j q => ((hU j).choose, q.2))[j]? = some (kk, v) := e
      rw [List.getElem?_mapIdx] at e'
      obtain ⟨q', e1, e2⟩ := Option.map_eq_some_iff.mp e'
      cases e2
      obtain ⟨b, w1, w2, w3⟩ := hU2 j q' e1
      exact ⟨q'.1, e1, w3⟩
    · simp [hl]; exact hz
    · have hm : (s.heap.objs.size == sysModules) = false := beq_eq_false_iff_ne.mpr (Nat.ne_of_gt I.big)
      have hlen : (mergeK [] kvs).length ≤ sizeLine := by
        refine Nat.le_trans (length_mergeK kvs []) ?_
        rw [List.length_nil, Nat.zero_add, rel.length, hl]
        exact hz
      exact ⟨.ref s.heap.objs.size, upd H s.heap.objs.size (.dK (mergeK [] kvs)), I.laid (t' := tk) (fun b o e => kp b o (by simp) e) (Nat.le_refl _) (show ObjOk X.prog X.w _ _ _ (.dK (mergeK [] kvs)) from ⟨hlen, hm, merged [] prs, KV.merge rel .nil, hd'⟩), rfl, q _ (I.hok.fresh (Nat.le_refl _))⟩
def dDict : List D → Option (D × Bool)
  | [.dict es] => some (.dict es, true)
  | [.list ds] => (pairsOf ds).map fun ps => (.dict (mergeD [] ps), true)
  | [.tuple ds] => (pairsOf ds).map fun ps => (.dict (mergeD [] ps), true)
  | _ => none
theorem on_dict : OpN K (rDictOf K) dDict := fun vs ds z b G H Q s u hg k => by
  unfold dDict at hg
  split at hg
  · cases hg
    obtain ⟨v, rfl, u0⟩ := u.one
    obtain ⟨a, kvs, rfl, h, r⟩ := u0.dict s
    exact .inl ⟨a, kvs, rfl, h, fun p hp => k _ _ _ (New.own s hp) (Fresh.new s hp (.dK r))⟩
  · obtain ⟨ps, h1, h2⟩ := Option.map_eq_some_iff.mp hg
    cases h2
    obtain ⟨v, rfl, u0⟩ := u.one
    obtain ⟨a, xs, rfl, h, r⟩ := u0.list s
    obtain ⟨as, kvs, rfl, w2, w3⟩ := pairs_reps s r h1
    exact .inr ⟨a, as, kvs, rfl, .inl h, w3, fun p hp => k _ _ _ (New.own s hp) (Fresh.new s hp (.dK (w2.merge .nil)))⟩
  · obtain ⟨ps, h1, h2⟩ := Option.map_eq_some_iff.mp hg
    cases h2
    obtain ⟨v, rfl, u0⟩ := u.one
    obtain ⟨a, xs, rfl, h, r⟩ := u0.tupG
    obtain ⟨as, kvs, rfl, w2, w3⟩ := pairs_reps s r h1
    exact .inr ⟨a, as, kvs, rfl, .inr (h.mono s), w3, fun p hp => k _ _ _ (New.own s hp) (Fresh.new s hp (.dK (w2.merge .nil)))⟩
  · cases hg
end
end Fx
/-! Fx9: methods that write, stores into cells, several names at once, global constants. -/
namespace Fx
open PySem PySem.Spec L2
section
variable {K : PySem.W.Frag} {X : Cx} {a b e o : Expr} {es : List Expr} {pos p apos cpos : Pos}
theorem ext_upd {G H : Hp} {l : Addr} {u : HO} (hl : H l ≠ none) : Ext (fun x => x = l) G H G (upd H l u) := ⟨Same.refl _, fun b o h n => by rw [upd_ne n]; exact h, fun _ _ _ _ g => g, fun b h => by
  by_cases hb : b = l
  · rw [hb, upd_same] at h
    cases h
  · rwa [upd_ne hb] at h⟩
theorem same_upd' {G H : Hp} {l : Addr} {u : HO} (s : Same G H) (g : G l = none) : Same G (upd H l u) := fun b o e => by
  have hb : b ≠ l := fun z => by rw [z, g] at e; cases e
  rw [upd_ne hb]
  exact s b o e
/-! ### a method that writes its object, that a slot owns -/
def OpM (K : PySem.W.Frag) (r : V → List V → Hp → VK → Prop) (g : D → List D → Option (D × Bool × D)) : Prop :=
  ∀ (l : Addr) (o : HO) (d : D) (xs : List V) (ds : List D) (z : D) (b : Bool) (d' : D) (G H : Hp) (Q : VK), Same G H → G l = none → H l = some o → RepO K G o d → Reps K G xs ds → g d ds = some (z, b, d') →
    (∀ v G' H' o', Ext (fun x => x = l) G H G' H' → Same G' H' → G' l = none → H' l = some o' → RepO K G' o' d' → Res K (fun x => x = l) H (fun x => x = l) G' H' v z b → Q v H') → r (.ref l) xs H Q
/-- what a slot must hold -/
structure KindO (X : Cx) (T : String) (c : D → Bool) where
  ty : V → Hp → Prop
  ok : TyOk X T ty
  at_ : ∀ {G H : Hp} {l : Addr} {o : HO} {d : D}, Same G H → H l = some o → RepO X.K G o d → c d = true → ty (.ref l) H
  use : ∀ {G H : Hp} {v : V} {d : D}, Same G H → Use X.K G H v d → c d = true → ty v H
def isLst : D → Bool
  | .list _ => true
  | _ => false
def isTup : D → Bool
  | .tuple _ => true
  | _ => false
def isDct : D → Bool
  | .dict _ => true
  | _ => false
def isTxt : D → Bool
  | .str _ => true
  | _ => false
def kindL (X : Cx) : KindO X "list" isLst where
  ty := fun x H => ∃ a xs, x = .ref a ∧ SqL X.K H a xs
  ok := by
    intro pins σ H s x v I r ⟨a, xs, e, h⟩
    subst e
    obtain rfl : v = Value.ref a := r
    obtain ⟨its, rv, ⟨o, n, ho, hc, hd, hh⟩, hz⟩ := I.list h
    exact ⟨⟨o, ho, hc⟩, fun b e => by cases e; exact ⟨o, ho, hd⟩⟩
  at_ := by
    intro G H l o d s h r c
    cases r with
    | lst q => exact ⟨l, _, rfl, .inl (.inl h)⟩
    | dK q => cases c
  use := by
    intro G H v d s u c
    cases d <;> first | (cases c; done) | skip
    obtain ⟨a, xs, rfl, h, _⟩ := u.list s
    exact ⟨a, xs, rfl, h⟩
def kindD (X : Cx) : KindO X "dict" isDct where
  ty := fun x H => ∃ a, x = .ref a ∧ IsD H a
  ok := by
    intro pins σ H s x v I r ⟨a, e, h⟩
    subst e
    obtain rfl : v = Value.ref a := r
    obtain ⟨t1, t2, _⟩ := isD_at I h
    exact ⟨t1, t2⟩
  at_ := by
    intro G H l o d s h r c
    cases r with
    | lst q => cases c
    | dK q => exact ⟨l, rfl, .inl ⟨_, .inl h⟩⟩
  use := by
    intro G H v d s u c
    cases d <;> first | (cases c; done) | skip
    obtain ⟨a, kvs, rfl, h, _⟩ := u.dict s
    exact ⟨a, rfl, .inl ⟨kvs, h⟩⟩
def kindS (X : Cx) : KindO X "str" isTxt where
  ty := fun x H => ∃ z, x = .str z
  ok := by
    intro pins σ H s x v I r ⟨z, e⟩
    subst e
    obtain ⟨t, rfl⟩ := r
    exact ⟨rfl, fun b e => by cases e⟩
  at_ := by
    intro G H l o d s h r c
    cases r <;> cases c
  use := by
    intro G H v d s u c
    cases d <;> first | (cases c; done) | skip
    exact ⟨_, u.str⟩
def fMut (i : Nat) (c : D → Bool) (l : Lv) (g : D → List D → Option (D × Bool × D)) : Ev := fun en => if isOwn en i = true then (peek en i).bind fun d0 => if c d0 = true then (l en).bind fun x => match x.2[i]? with
  | some (some (d, f)) => if f = .sh then none else (g d x.1).map fun z => (z.1, z.2.1, x.2.set i (some (z.2.2, f)))
  | _ => none
  else none else none
theorem fe_mut {i : Nat} {T id : String} {c : D → Bool} {name : Str} {l : Lv} {g : D → List D → Option (D × Bool × D)} {r : V → List V → Hp → VK → Prop} (kd : KindO X T c) (o : OpM X.K r g) (pa : PlainAttrs T) (slot : Slot T name id) (hty : typeOf (.builtin id) = pure (.type "method_descriptor")) (hm : MtR X id r) (ho : PE X a (tVar i)) (ha : PA X (e :: es) (FL X.K l))
    (hbase : attributeBase a name X.env (eval a X.env) = eval a X.env := by rfl)
    (hfew : ((backTo cpos (starEach (e :: es) X.env)).all (fun x => !x.1) && (backToKw cpos (keywordEach [] X.env)).all (fun x => x.1.isSome)
      && decide ((e :: es).length + ([] : List Keyword).length + (if ([] : List Keyword).isEmpty then 0 else 1) < 30)) = true := by rfl)
    (hline : (apos.endLine == cpos.line) = true := by rfl) (hs : starEach (e :: es) X.env = (false, eval e X.env) :: starEach es X.env := by rfl) (hplain : (backTo cpos (starEach es X.env)).any (·.1) = false := by rfl) :
    PE X (.Call (.Attribute a name apos) (e :: es) [] cpos) (FE X.K (fMut i c l g)) :=
  pe_imp (pe_mG kd.ok pa slot hty hm ho ha hbase hfew hline hs hplain) fun σ H Q ⟨G, en, d, b, en', S, e1, k⟩ => by
    obtain ⟨h0, e1⟩ := ite_some e1
    obtain ⟨d0, hp, e1⟩ := Option.bind_eq_some_iff.mp e1
    obtain ⟨hc, e1⟩ := ite_some e1
    obtain ⟨⟨ds, en1⟩, p1, e2⟩ := Option.bind_eq_some_iff.mp e1
    obtain ⟨dw, fl, q1, e3⟩ := getSlot e2
    obtain ⟨hf, e4⟩ := ite_none e3
    obtain ⟨⟨z, b', dw'⟩, p5, e6⟩ := Option.map_eq_some_iff.mp e4
    cases e6
    obtain ⟨d1, f0, h1, h2⟩ := isOwn_of h0
    obtain ⟨f1, h3⟩ := peek_some hp
    rw [h1] at h3
    cases h3
    obtain ⟨a, o0, q2, _, q3, q4⟩ := S.own i _ f0 h1 h2
    refine ⟨_, q2, kd.at_ S.sub q3 q4 hc, G, en, ds, en1, S, p1, fun vs G1 H1 T r => ?_⟩
    obtain ⟨a', o1, s1, s2, s3, s4⟩ := T.sr.own i dw fl q1 hf
    rw [q2] at s1
    cases s1
    refine o a o1 dw vs ds z b' dw' G1 H1 Q T.sr.sub s2 s3 s4 r p5 fun v G' H' o' E sub g h ro R => ?_
    have W := SR.write T.sr q1 hf q2 E sub g h ro
    refine k v G' H' (T.trans W) ?_
    cases b' with
    | false => exact R
    | true =>
      obtain ⟨c, u, e, w1, w2, w3, w4, w5⟩ := R
      have hn : H1 c = none := w1.resolve_right w2
      refine ⟨c, u, e, .inl (T.ext.t c hn), fun q => ?_, w3, w4, w5⟩
      obtain ⟨y, e7, _⟩ := T.sr.there (W.own c q)
      rw [hn] at e7
      cases e7
theorem fe_mut0 {i : Nat} {T id : String} {c : D → Bool} {name : Str} {g : D → List D → Option (D × Bool × D)} {r : V → List V → Hp → VK → Prop} (kd : KindO X T c) (o : OpM X.K r g) (pa : PlainAttrs T) (slot : Slot T name id) (hty : typeOf (.builtin id) = pure (.type "method_descriptor")) (hm : MtR X id r) (ho : PE X a (tVar i))
    (hbase : attributeBase a name X.env (eval a X.env) = eval a X.env := by rfl) (hline : (apos.endLine == cpos.line) = true := by rfl) :
    PE X (.Call (.Attribute a name apos) [] [] cpos) (FE X.K (fMut i c lNil g)) :=
  pe_imp (pe_mG0 kd.ok pa slot hty hm ho hbase hline) fun σ H Q ⟨G, en, d, b, en', S, e1, k⟩ => by
    obtain ⟨h0, e1⟩ := ite_some e1
    obtain ⟨d0, hp, e1⟩ := Option.bind_eq_some_iff.mp e1
    obtain ⟨hc, e1⟩ := ite_some e1
    obtain ⟨⟨ds, en1⟩, p1, e2⟩ := Option.bind_eq_some_iff.mp e1
    cases p1
    obtain ⟨dw, fl, q1, e3⟩ := getSlot e2
    obtain ⟨hf, e4⟩ := ite_none e3
    obtain ⟨⟨z, b', dw'⟩, p5, e6⟩ := Option.map_eq_some_iff.mp e4
    cases e6
    obtain ⟨f1, h3⟩ := peek_some hp
    rw [q1] at h3
    cases h3
    obtain ⟨a, o0, q2, s2, q3, q4⟩ := S.own i _ _ q1 hf
    refine ⟨_, q2, kd.at_ S.sub q3 q4 hc, ?_⟩
    refine o a o0 _ [] [] z b' dw' G H Q S.sub s2 q3 q4 .nil p5 fun v G' H' o' E sub g h ro R => ?_
    have W := SR.write S q1 hf q2 E sub g h ro
    refine k v G' H' W ?_
    cases b' with
    | false => exact R
    | true =>
      obtain ⟨c, u, e, w1, w2, w3, w4, w5⟩ := R
      have hn : H c = none := w1.resolve_right w2
      refine ⟨c, u, e, .inl hn, fun q => ?_, w3, w4, w5⟩
      obtain ⟨y, e7, _⟩ := S.there (W.own c q)
      rw [hn] at e7
      cases e7
theorem opM_upd {l : Addr} {o' : HO} {d' z : D} {v : V} {G H : Hp} {o : HO} {Q : VK} (s : Same G H) (g : G l = none) (h : H l = some o) (r : RepO K G o' d') (rz : Rep K G v z)
    (k : ∀ v G' H' o', Ext (fun x => x = l) G H G' H' → Same G' H' → G' l = none → H' l = some o' → RepO K G' o' d' → Res K (fun x => x = l) H (fun x => x = l) G' H' v z false → Q v H') : Q v (upd H l o') :=
  k v G (upd H l o') o' (ext_upd (by rw [h]; exact fun z => by cases z)) (same_upd' s g) g upd_same r rz
def mAppend : D → List D → Option (D × Bool × D)
  | .list ds, [x] => if ds.length < sizeLine then some (.none, false, .list (ds ++ [x])) else none
  | _, _ => none
theorem om_append : OpM K rAppend mAppend := fun l o d xs ds z b d' G H Q s g h r rs e k => by
  unfold mAppend at e
  split at e
  · obtain ⟨hl, e⟩ := ite_some e
    cases e
    cases r with
    | lst q =>
      cases rs with
      | cons r1 r2 =>
        cases r2
        exact ⟨l, _, _, rfl, rfl, h, by rw [q.length]; exact hl, opM_upd s g h (.lst (q.append (.cons r1 .nil))) .non k⟩
  · cases e
def mExtend : D → List D → Option (D × Bool × D)
  | .list ds, [.list es] => if ds.length + es.length ≤ sizeLine then some (.none, false, .list (ds ++ es)) else none
  | _, _ => none
theorem Reps.last {G : Hp} {xs : List V} {ds : List D} {d : D} (r : Reps K G xs ds) (h : ds.getLast? = some d) : ∃ v, xs[xs.length - 1]? = some v ∧ Rep K G v d := by
  rw [List.getLast?_eq_getElem?] at h
  rw [r.length]
  exact r.get' h
theorem Reps.dropLast {G : Hp} {xs : List V} {ds : List D} (r : Reps K G xs ds) : Reps K G xs.dropLast ds.dropLast := by
  rw [List.dropLast_eq_take, List.dropLast_eq_take, r.length]
  exact r.take _
def mPop : D → List D → Option (D × Bool × D)
  | .list ds, [] => ds.getLast?.map fun x => (x, false, .list ds.dropLast)
  | _, _ => none
theorem om_pop : OpM K rPop mPop := fun l o d xs ds z b d' G H Q s g h r rs e k => by
  unfold mPop at e
  split at e
  · obtain ⟨x, e1, e2⟩ := Option.map_eq_some_iff.mp e
    cases e2
    cases r with
    | lst q =>
      cases rs
      obtain ⟨v, w1, w2⟩ := q.last e1
      exact ⟨l, _, v, rfl, rfl, h, w1, opM_upd s g h (.lst q.dropLast) w2 k⟩
  · cases e
def mPopAt : D → List D → Option (D × Bool × D)
  | .list ds, [.int i] => if -(2 ^ 63) ≤ i ∧ i < 2 ^ 63 then (seqIndex? i ds.length).bind fun k => (ds[k]?).map fun x => (x, false, .list (ds.eraseIdx k)) else none
  | _, _ => none
theorem om_popAt : OpM K rPopAt mPopAt := fun l o d xs ds z b d' G H Q s g h r rs e k => by
  unfold mPopAt at e
  split at e
  · obtain ⟨⟨b1, b2⟩, e⟩ := ite_some e
    obtain ⟨j, e1, e2⟩ := Option.bind_eq_some_iff.mp e
    obtain ⟨x, e3, e4⟩ := Option.map_eq_some_iff.mp e2
    cases e4
    cases r with
    | lst q =>
      cases rs with
      | cons r1 r2 =>
        cases r2
        cases r1
        obtain ⟨v, w1, w2⟩ := q.get' e3
        exact ⟨l, _, _, j, v, rfl, rfl, h, b1, b2, by rw [q.length]; exact e1, w1, opM_upd s g h (.lst (q.eraseIdx j)) w2 k⟩
  · cases e
/-! ### a method that reads -/
def OpMR (K : PySem.W.Frag) (r : V → List V → Hp → VK → Prop) (g : D → List D → Option (D × Bool)) : Prop :=
  ∀ (x : V) (d : D) (xs : List V) (ds : List D) (z : D) (b : Bool) (G H : Hp) (Q : VK), Same G H → Use K G H x d → Uses K G H xs ds → g d ds = some (z, b) → (∀ v G' H', New G H G' H' → Fresh K H G' H' v z b → Q v H') → r x xs H Q
def fMeth (p : Ov) (c : D → Bool) (l : Av) (g : D → List D → Option (D × Bool)) : Ev := fun en => (p en).bind fun x => (x.1.late x.2).bind fun d0 => if c d0 = true then (l x.2).bind fun y => (x.1.late y.2).bind fun d => (lates y.2 y.1).bind fun ds => (g d ds).map fun z => (z.1, z.2, y.2) else none
theorem fe_meth {T id : String} {c : D → Bool} {name : Str} {p : Ov} {l : Av} {g : D → List D → Option (D × Bool)} {r : V → List V → Hp → VK → Prop} (kd : KindO X T c) (o : OpMR X.K r g) (pa : PlainAttrs T) (slot : Slot T name id) (hty : typeOf (.builtin id) = pure (.type "method_descriptor")) (hm : MtR X id r) (ho : PE X a (FO X.K p)) (ha : PA X (e :: es) (FA X.K l))
    (hbase : attributeBase a name X.env (eval a X.env) = eval a X.env := by rfl)
    (hfew : ((backTo cpos (starEach (e :: es) X.env)).all (fun x => !x.1) && (backToKw cpos (keywordEach [] X.env)).all (fun x => x.1.isSome)
      && decide ((e :: es).length + ([] : List Keyword).length + (if ([] : List Keyword).isEmpty then 0 else 1) < 30)) = true := by rfl)
    (hline : (apos.endLine == cpos.line) = true := by rfl) (hs : starEach (e :: es) X.env = (false, eval e X.env) :: starEach es X.env := by rfl) (hplain : (backTo cpos (starEach es X.env)).any (·.1) = false := by rfl) :
    PE X (.Call (.Attribute a name apos) (e :: es) [] cpos) (FE X.K (fMeth p c l g)) :=
  pe_imp (pe_mG kd.ok pa slot hty hm ho ha hbase hfew hline hs hplain) fun σ H Q ⟨G, en, d, b, en', S, e1, k⟩ => by
    obtain ⟨⟨x, en1⟩, p1, e1⟩ := Option.bind_eq_some_iff.mp e1
    obtain ⟨d0, hp, e1⟩ := Option.bind_eq_some_iff.mp e1
    obtain ⟨hc, e1⟩ := ite_some e1
    obtain ⟨⟨y, en2⟩, p2, e1⟩ := Option.bind_eq_some_iff.mp e1
    obtain ⟨d2, p3, e1⟩ := Option.bind_eq_some_iff.mp e1
    obtain ⟨ds, p4, e1⟩ := Option.bind_eq_some_iff.mp e1
    obtain ⟨⟨z', b'⟩, p5, e6⟩ := Option.map_eq_some_iff.mp e1
    cases e6
    refine ⟨G, en, x, en1, S, p1, fun v G1 H1 T1 r1 => ⟨kd.use T1.sr.sub (r1.use T1.sr hp) hc, G1, en1, y, en2, T1.sr, p2, fun vs G2 H2 T2 r2 => ?_⟩⟩
    exact o v d2 vs ds _ _ G2 H2 Q T2.sr.sub ((r1.step T2).use T2.sr p3) (r2.uses T2.sr p4) p5 fun v G' H' N F => k v G' H' ((T1.trans T2).trans (N.step T2.sr)) (F.res' (T1.trans T2))
/-! ### stores into cells -/
def rSetA : V → V → V → Hp → (Hp → Prop) → Prop := fun o i v H Q => rSetL o i v H Q ∨ ∃ a H', o = .ref a ∧ DPut H a i v H' ∧ Q H'
theorem set_A (hu : X.A.units + 1 < cLine) : PSet X rSetA := by
  intro pins s σ H o i v ov iv u Q I ro ri rv h
  rcases h with h | ⟨a, H', e, g, q⟩
  · exact set_list pins s σ H o i v ov iv u Q I ro ri rv h
  · subst e
    obtain rfl : ov = Value.ref a := ro
    exact d_setItem hu I g ri rv fun s' I' => ⟨H', I', q⟩
def dSetA : D → D → D → Option D
  | .list ds, .int k, d => (ixN ds.length k).map fun j => .list (ds.set j d)
  | .dict es, k, d => (keyOf k).bind fun k => if es.length < sizeLine then some (.dict (dictPut es k d)) else none
  | _, _, _ => none
theorem setA_of {G H : Hp} {l : Addr} {o : HO} {d k x d' : D} {vk v : V} {Q : Hp → Prop} (s : Same G H) (g : G l = none) (h : H l = some o) (r : RepO K G o d) (rk : Rep K G vk k) (rx : Rep K G v x) (e : dSetA d k x = some d') (q : ∀ o', RepO K G o' d' → Q (upd H l o')) : rSetA (.ref l) vk v H Q := by
  unfold dSetA at e
  split at e
  · obtain ⟨j, e1, e2⟩ := Option.map_eq_some_iff.mp e
    cases e2
    cases r with
    | lst r =>
      cases rk
      exact .inl ⟨l, _, _, j, rfl, rfl, h, by rw [r.length]; exact e1, q _ (.lst (r.set rx j))⟩
  · obtain ⟨k', e1, e2⟩ := Option.bind_eq_some_iff.mp e
    obtain ⟨hl, e3⟩ := ite_some e2
    cases e3
    cases r with
    | dK r =>
      have ek := keyV (H := H) (.inl rk) e1
      subst ek
      exact .inr ⟨l, _, rfl, DPut.k h (by rw [r.length]; exact hl), q _ (.dK (r.put k' rx))⟩
  · cases e
def gSubD (i : Nat) (f : Vv) : Gv := fun d en => if isOwn en i = true then (f en).bind fun x => match x.2[i]? with
  | some (some (dw, fl)) => if fl = .sh then none else (dSetA dw x.1 d).map fun z => x.2.set i (some (z, fl))
  | _ => none
  else none
theorem fg_sub {i : Nat} {f : Vv} (hu : X.A.units + 1 < cLine) (ho : PE X o (tVar i)) (hi : PE X e (FV X.K f)) (ha : ∀ v, assign (.Subscript o e pos) X.env v = (do
      let ov ← holding [v] (eval o X.env)
      let iv ← holding [v, ov] (eval e X.env)
      standAt pos
      holding [v, ov, iv] (setItem ov iv v)
      release [v, ov, iv] []) := by intro _; rfl) : PG X (.Subscript o e pos) (FG Rep X.K [] (gSubD i f)) :=
  pg_imp (pg_sub ho hi (set_A hu) ha) fun v σ H Q ⟨G, en, d, en', S, r, e1, k⟩ => by
    obtain ⟨h0, e1⟩ := ite_some e1
    obtain ⟨⟨x, en1⟩, p1, e2⟩ := Option.bind_eq_some_iff.mp e1
    obtain ⟨dw, fl, q1, e3⟩ := getSlot e2
    obtain ⟨hf, e4⟩ := ite_none e3
    obtain ⟨dw', p5, e6⟩ := Option.map_eq_some_iff.mp e4
    subst e6
    obtain ⟨d1, f0, h1, h2⟩ := isOwn_of h0
    obtain ⟨a, o0, q2, _, q3, q4⟩ := S.own i _ f0 h1 h2
    refine ⟨_, q2, G, en, x, en1, S, p1, fun vk G1 H1 T rk => ?_⟩
    obtain ⟨a', o1, s1, s2, s3, s4⟩ := T.sr.own i dw fl q1 hf
    rw [q2] at s1
    cases s1
    refine setA_of T.sr.sub s2 s3 s4 rk (r.mono T.ext.g) p5 fun o' ro => ?_
    have W := SR.write T.sr q1 hf q2 (ext_upd (u := o') (by rw [s3]; exact fun z => by cases z)) (same_upd' T.sr.sub s2) s2 upd_same ro
    exact k σ G1 _ (step_g (T.trans W)) ⟨rfl, fun _ _ => rfl⟩
/-- d[k] += e, of ints -/
def dGetA : D → D → Option D
  | .dict es, k => (keyOf k).bind fun k => dictGet es k
  | _, _ => none
def sAugS (i : Nat) (f : Vv) (g : Vv) (h : D → D → Option D) : Sv := fun en => if isOwn en i = true then (f en).bind fun x => (peek x.2 i).bind fun dw => (dGetA dw x.1).bind fun d0 => (g x.2).bind fun y => match y.2[i]? with
  | some (some (dw, fl)) => if fl = .sh then none else (h d0 y.1).bind fun z => (dSetA dw x.1 z).map fun z => (.nx, y.2.set i (some (z, fl)))
  | _ => none
  else none
def dGetR : V → V → Hp → VK → Prop := fun x y H Q => ∃ a v, x = .ref a ∧ DGet H a y (some v) ∧ Q v H
theorem get_D (hu : X.A.units + 1 < cLine) : PGet X dGetR := by
  intro pins s σ H o i ov iv Q I ro ri ⟨a, v, e, g, q⟩
  subst e
  obtain rfl : ov = Value.ref a := ro
  exact d_getItem hu I g ri fun w' s' I' r' => ⟨v, H, I', r', q⟩
def Ip2 (K : PySem.W.Frag) (r : TIp) (g : D → D → Option D) : Prop := ∀ x y d e z G H Q, Rep K G x d → Rep K G y e → g d e = some z → (∀ v, (∀ G, Rep K G v z) → Q v H) → r x y H Q
def zAdd : D → D → Option D
  | .int i, .int j => some (.int (i + j))
  | _, _ => none
def zSub : D → D → Option D
  | .int i, .int j => some (.int (i - j))
  | _, _ => none
theorem i2_add : Ip2 K (ipI fun i j => i + j) zAdd := fun x y d e z G H Q rx ry h k => by
  unfold zAdd at h
  split at h
  · cases h
    cases rx
    cases ry
    exact ⟨_, _, rfl, rfl, k _ fun _ => .int _⟩
  · cases h
theorem i2_sub : Ip2 K (ipI fun i j => i - j) zSub := fun x y d e z G H Q rx ry h k => by
  unfold zSub at h
  split at h
  · cases h
    cases rx
    cases ry
    exact ⟨_, _, rfl, rfl, k _ fun _ => .int _⟩
  · cases h
theorem fs_augS {i : Nat} {f g : Vv} {op : Operator} {ti : TIp} {h : D → D → Option D} {tpos : Pos} (hu : X.A.units + 1 < cLine) (ho : PE X o (tVar i)) (hi : PE X a (FV X.K f)) (he : PE X e (FV X.K g)) (hop : PIp X op ti) (i2 : Ip2 X.K ti h)
    (ha : ∀ ov iv new, augStore a ov iv new = (do holding [new, ov, iv] (setItem ov iv new); release [new, ov, iv] []; pure .next) := by intros; rfl) : PS X (.AugAssign (.Subscript o a tpos) op e pos) (FS X.K (sAugS i f g h)) :=
  ps_imp (ps_augS ho hi (get_D hu) he hop (set_A hu) ha) fun D σ H ⟨G, en, out, en', S, e1, k⟩ => by
    obtain ⟨h0, e1⟩ := ite_some e1
    obtain ⟨⟨x, en1⟩, p1, e1⟩ := Option.bind_eq_some_iff.mp e1
    obtain ⟨dw, p2, e1⟩ := Option.bind_eq_some_iff.mp e1
    obtain ⟨d0, p3, e1⟩ := Option.bind_eq_some_iff.mp e1
    obtain ⟨⟨y, en2⟩, p4, e1⟩ := Option.bind_eq_some_iff.mp e1
    obtain ⟨dw1, fl, q1, e3⟩ := getSlot e1
    obtain ⟨hf, e4⟩ := ite_none e3
    obtain ⟨z, p5, e5⟩ := Option.bind_eq_some_iff.mp e4
    obtain ⟨dw', p6, e6⟩ := Option.map_eq_some_iff.mp e5
    cases e6
    obtain ⟨d1, f0, h1, h2⟩ := isOwn_of h0
    obtain ⟨a, o0, q2, _, q3, q4⟩ := S.own i _ f0 h1 h2
    refine ⟨_, q2, G, en, x, en1, S, p1, fun vk G1 H1 T rk => ?_⟩
    have U : Use X.K G1 H1 (.ref a) dw := HoldR.use (h := .slot i) T.sr q2 p2
    unfold dGetA at p3
    split at p3
    · obtain ⟨kk, w1, w2⟩ := Option.bind_eq_some_iff.mp p3
      obtain ⟨a', kvs, e7, u1, u2⟩ := U.dict T.sr.sub
      cases e7
      have ek := keyV (H := H1) (.inl rk) w1
      subst ek
      obtain ⟨v0, w3, w4⟩ : ∃ v0, valV kvs kk = some v0 ∧ Rep X.K G1 v0 d0 := by
        rcases u2.get kk with ⟨_, w3⟩ | ⟨v0, d3, w3, w5, w4⟩
        · rw [w2] at w3
          cases w3
        · rw [w2] at w5
          cases w5
          exact ⟨v0, w3, w4⟩
      refine ⟨a, v0, rfl, .inl ⟨kvs, kk, u1, rfl, w3.symm⟩, G1, en1, y, en2, T.sr, p4, fun vy G2 H2 T2 ry => ?_⟩
      obtain ⟨a', o1, s1, s2, s3, s4⟩ := T2.sr.own i dw1 fl q1 hf
      rw [q2] at s1
      cases s1
      refine i2 _ _ _ _ _ G2 H2 _ (w4.mono T2.ext.g) ry p5 fun vz rz => ?_
      refine setA_of T2.sr.sub s2 s3 s4 (rk.mono T2.ext.g) (rz _) p6 fun o' ro => ?_
      have W := SR.write T2.sr q1 hf q2 (ext_upd (u := o') (by rw [s3]; exact fun z => by cases z)) (same_upd' T2.sr.sub s2) s2 upd_same ro
      exact k G2 _ σ ((T.trans T2).trans W).s
    · cases p3
/-- x += e, of ints -/
def sAugN (i : Nat) (f : Vv) (h : D → D → Option D) : Sv := fun en => match en[i]? with
  | some (some (d0, .sh)) => (f en).bind fun x => (h d0 x.1).bind fun z => if free1 x.2 i = true then some (.nx, x.2.set i (some (z, .sh))) else none
  | _ => none
theorem fs_aug {i : Nat} {x : Str} {f : Vv} {op : Operator} {ti : TIp} {h : D → D → Option D} {pos' : Pos} (hN : X.N.Nodup) (he : PE X e (FV X.K f)) (hop : PIp X op ti) (i2 : Ip2 X.K ti h) (hi : X.N[i]? = some x := by rfl) (hx : Loc X.env.scope x := by first | exact .inl rfl | exact .inr rfl)
    (hf : X.fn x = true ∨ X.env.scope.names.lookup x = some .local := by first | exact .inl rfl | exact .inr rfl | assumption) : PS X (.AugAssign (.Name x pos') op e pos) (FS X.K (sAugN i f h)) :=
  ps_imp (ps_aug hN hi hx he hop hf) fun D σ H ⟨G, en, out, en', S, e1, k⟩ => by
    unfold sAugN at e1
    split at e1
    · rename_i d0 q0
      obtain ⟨⟨y, en1⟩, p1, e1⟩ := Option.bind_eq_some_iff.mp e1
      obtain ⟨z, p2, e1⟩ := Option.bind_eq_some_iff.mp e1
      obtain ⟨hl, e1⟩ := ite_some e1
      cases e1
      obtain ⟨v, s1, s2⟩ := S.shd i d0 q0
      refine ⟨v, s1, G, en, y, en1, S, p1, fun vy G1 H1 T ry => ?_⟩
      refine i2 _ _ _ _ _ G1 H1 _ (s2.mono T.ext.g) ry p2 fun vz rz => ?_
      exact k G1 H1 _ (T.s.store (b := false) hl (rz _))
    · cases e1
/-! ### several names at once -/
abbrev Mv := En → Option (List (D × Bool) × En)
def frs : List V → List (D × Bool) → Addr → Prop
  | v :: vs, (_, b) :: ds, x => (b = true ∧ v = .ref x) ∨ frs vs ds x
  | _, _, _ => False
inductive ResL (K : PySem.W.Frag) (O : Addr → Prop) (H : Hp) (O' : Addr → Prop) (G' H' : Hp) : List V → List (D × Bool) → Prop
  | nil : ResL K O H O' G' H' [] []
  | cons {v : V} {d : D} {b : Bool} {vs : List V} {ds : List (D × Bool)} : Res K O H (fun x => O' x ∨ frs vs ds x) G' H' v d b → ResL K O H O' G' H' vs ds → ResL K O H O' G' H' (v :: vs) ((d, b) :: ds)
def FM (K : PySem.W.Frag) (f : Mv) : TA := fun σ H Q => ∃ G en ds en', SR K G H en σ ∧ f en = some (ds, en') ∧ ∀ vs G' H', Step K en en' σ G H G' H' → ResL K (OwnA en σ) H (OwnA en' σ) G' H' vs ds → Q vs H'
def mNil : Mv := fun en => some ([], en)
def mCons (p : Ev) (r : Mv) : Mv := fun en => (p en).bind fun x => (r x.2.2).map fun y => ((x.1, x.2.1) :: y.1, y.2)
theorem fm_nil : PA X [] (FM X.K mNil) := pa_imp pa_nil fun σ H Q ⟨G, en, ds, en', S, e1, k⟩ => by
  cases e1
  exact k [] G H (Step.refl S) .nil
theorem res_step {G H G1 H1 G2 H2 : Hp} {en en1 en2 : En} {σ : St} {v : V} {d : D} {b : Bool} {P : Addr → Prop} (T : Step K en en1 σ G H G1 H1) (U : Step K en1 en2 σ G1 H1 G2 H2) (r : Res K (OwnA en σ) H (OwnA en1 σ) G1 H1 v d b) (hP : b = true → ∀ a, v = .ref a → ¬ P a) : Res K (OwnA en σ) H (fun x => OwnA en2 σ x ∨ P x) G2 H2 v d b := by
  cases b with
  | false => exact Rep.mono U.ext.g r
  | true =>
    obtain ⟨a, o, e, h1, h2, h3, h4, h5⟩ := r
    exact ⟨a, o, e, h1, fun z => z.elim (fun z => h2 (U.own a z)) (hP rfl a e), U.ext.h a o h3 h2, U.ext.n a o h3 h2 h4, h5.mono U.ext.g⟩
theorem frs_new {O : Addr → Prop} {H : Hp} {O' : Addr → Prop} {G' H' : Hp} : ∀ {vs : List V} {ds : List (D × Bool)} {x : Addr}, ResL K O H O' G' H' vs ds → frs vs ds x → (H x = none ∨ O x)
  | _, _, _, .nil, h => h.elim
  | _, _, x, .cons r t, h => by
    rcases h with ⟨hb, e⟩ | h
    · subst hb
      obtain ⟨a, o, e', h1, _⟩ := r
      rw [e] at e'
      cases e'
      exact h1
    · exact frs_new t h
theorem resL_from {G H G1 H1 : Hp} {en en1 en2 : En} {σ : St} {G2 H2 : Hp} (T : Step K en en1 σ G H G1 H1) : ∀ {vs : List V} {ds : List (D × Bool)}, ResL K (OwnA en1 σ) H1 (OwnA en2 σ) G2 H2 vs ds → ResL K (OwnA en σ) H (OwnA en2 σ) G2 H2 vs ds
  | _, _, .nil => .nil
  | _, _, .cons (b := b) r t => by
    refine .cons ?_ (resL_from T t)
    cases b with
    | false => exact r
    | true =>
      obtain ⟨a, o, e, q1, q2, q3, q4, q5⟩ := r
      refine ⟨a, o, e, ?_, q2, q3, q4, q5⟩
      rcases q1 with q1 | q1
      · exact .inl (T.ext.t a q1)
      · exact .inr (T.own a q1)
theorem fm_cons {f : Ev} {r : Mv} (h : PE X e (FE X.K f)) (hr : PA X es (FM X.K r)) (hs : starEach (e :: es) X.env = (false, eval e X.env) :: starEach es X.env := by rfl) : PA X (e :: es) (FM X.K (mCons f r)) :=
  pa_imp (pa_cons h hr hs) fun σ H Q ⟨G, en, ds, en', S, e1, k⟩ => by
    obtain ⟨⟨d, b, en1⟩, p1, e2⟩ := Option.bind_eq_some_iff.mp e1
    obtain ⟨⟨ds', en2⟩, p2, e3⟩ := Option.map_eq_some_iff.mp e2
    cases e3
    refine ⟨G, en, d, b, en1, S, p1, fun v G1 H1 T1 r1 => ⟨G1, en1, ds', en2, T1.sr, p2, fun vs G2 H2 T2 r2 => ?_⟩⟩
    refine k _ G2 H2 (T1.trans T2) (.cons (res_step T1 T2 r1 fun hb a ev hf => ?_) (resL_from T1 r2))
    subst hb
    obtain ⟨a', o, e', h1, h2, h3, _⟩ := r1
    rw [ev] at e'
    cases e'
    rcases frs_new r2 hf with z | z
    · rw [z] at h3
      cases h3
    · exact h2 z
def putAll : List Nat → List (D × Bool) → En → Option En
  | [], [], en => some en
  | i :: is, (d, b) :: ds, en => if free1 en i = true then putAll is ds (en.set i (some (d, flag b))) else none
  | _, _, _ => none
def stAll : List Nat → List V → St → St
  | i :: is, v :: vs, σ => stAll is vs (σ.set i (some v))
  | _, _, σ => σ
theorem resL_after {O : Addr → Prop} {H : Hp} {O1 O2 : Addr → Prop} {G' H' : Hp} : ∀ {vs : List V} {ds : List (D × Bool)}, ResL K O H O1 G' H' vs ds → (∀ x, frs vs ds x → O2 x → O1 x) → ResL K O H O2 G' H' vs ds
  | _, _, .nil, _ => .nil
  | _, _, .cons (b := b) r t, k => by
    refine .cons ?_ (resL_after t fun x hx => k x (.inr hx))
    cases b with
    | false => exact r
    | true =>
      obtain ⟨a, o, e, q1, q2, q3, q4, q5⟩ := r
      exact ⟨a, o, e, q1, fun z => q2 (z.elim (fun z => .inl (k a (.inl ⟨rfl, e⟩) z)) .inr), q3, q4, q5⟩
theorem put_all {G0 H0 : Hp} {en0 : En} {σ0 : St} {G H : Hp} : ∀ {is : List Nat} {vs : List V} {ds : List (D × Bool)} {en en' : En} {σ : St}, StepS K en0 σ0 G0 H0 en σ G H → ResL K (OwnA en0 σ0) H0 (OwnA en σ) G H vs ds → putAll is ds en = some en' → StepS K en0 σ0 G0 H0 en' (stAll is vs σ) G H
  | [], _, _, en, en', σ, T, .nil, e => by cases e; exact T
  | [], _, _, en, en', σ, T, .cons _ _, e => by cases e
  | _ :: _, _, _, en, en', σ, T, .nil, e => by cases e
  | i :: is, _, _, en, en', σ, T, .cons (v := v) (d := d) (b := b) (vs := vs) (ds := ds) r t, e => by
    obtain ⟨hl, e2⟩ := ite_some e
    have r0 : Res K (OwnA en0 σ0) H0 (OwnA en σ) G H v d b := by
      cases b with
      | false => exact r
      | true =>
        obtain ⟨a, o, e, q1, q2, q3, q4, q5⟩ := r
        exact ⟨a, o, e, q1, fun z => q2 (.inl z), q3, q4, q5⟩
    refine put_all (is := is) (vs := vs) (ds := ds) (σ := σ.set i (some v)) (StepS.store T hl r0) (resL_after t fun x hx hz => ?_) e2
    cases b with
    | false =>
      obtain ⟨k, d2, g, q1, n, q2⟩ := hz
      rcases set_at q1 with ⟨_, w, _⟩ | ⟨hk, w⟩
      · cases w
        exact absurd rfl n
      · rw [List.getElem?_set_ne (Ne.symm hk)] at q2
        exact ⟨k, d2, g, w, n, q2⟩
    | true =>
      rcases own_store T.sr hz with z | z
      · obtain ⟨a, o, e, q1, q2, _⟩ := r
        rw [e] at z
        cases z
        exact (q2 (.inr hx)).elim
      · exact z
def sParN (is : List Nat) (l : Mv) : Sv := fun en => (l en).bind fun x => (putAll is x.1 x.2).map fun e' => (.nx, e')
theorem resL_len {O : Addr → Prop} {H : Hp} {O1 : Addr → Prop} {G' H' : Hp} : ∀ {vs : List V} {ds : List (D × Bool)}, ResL K O H O1 G' H' vs ds → vs.length = ds.length
  | _, _, .nil => rfl
  | _, _, .cons _ t => by rw [List.length_cons, List.length_cons, resL_len t]
theorem putAll_len : ∀ {is : List Nat} {ds : List (D × Bool)} {en en' : En}, putAll is ds en = some en' → is.length = ds.length
  | [], [], _, _, _ => rfl
  | [], _ :: _, _, _, e => by cases e
  | _ :: _, [], _, _, e => by cases e
  | i :: is, (d, b) :: ds, en, en', e => by
    obtain ⟨hl, e2⟩ := ite_some e
    rw [List.length_cons, List.length_cons, putAll_len e2]
theorem fs_par2 {i j : Nat} {x y : Str} {a b : Expr} {l : Mv} {px py pt : Pos} {kt k2 pt2} (hc : X.calm = true) (hN : X.N.Nodup) (ha : PA X [a, b] (FM X.K l)) (hij : i ≠ j := by decide) (hi : X.N[i]? = some x := by rfl) (hj : X.N[j]? = some y := by rfl)
    (hx : X.env.scope.names.lookup x = some .local := by rfl) (hy : X.env.scope.names.lookup y = some .local := by rfl)
    (hw : swappedStores [.Tuple [.Name x px, .Name y py] kt pt] (.Tuple [a, b] k2 pt2) X.env = pure (some [x, y]) := by rfl)
    (hs : swapsWithSole [.Tuple [.Name x px, .Name y py] kt pt] (.Tuple [a, b] k2 pt2) pos.line X.env = pure false := by rfl) :
    PS X (.Assign [.Tuple [.Name x px, .Name y py] kt pt] (.Tuple [a, b] k2 pt2) pos) (FS X.K (sParN [i, j] l)) :=
  ps_imp (ps_par hc hN hi hj hij hx hy ha hw hs) fun D σ H ⟨G, en, out, en', S, e1, k⟩ => by
    obtain ⟨⟨ds, en1⟩, p1, e2⟩ := Option.bind_eq_some_iff.mp e1
    obtain ⟨en2, p2, e3⟩ := Option.map_eq_some_iff.mp e2
    cases e3
    refine ⟨G, en, ds, en1, S, p1, fun vs G1 H1 T r => ?_⟩
    have hl := (resL_len r).trans (putAll_len p2).symm
    match vs, hl, r with
    | [v, w], _, r => exact ⟨v, w, rfl, k G1 H1 _ (put_all T.s r p2)⟩
theorem fs_par3 {i j m : Nat} {x y z : Str} {a b c : Expr} {l : Mv} {px py pz pt : Pos} {kt k2 pt2} (hc : X.calm = true) (hN : X.N.Nodup) (ha : PA X [a, b, c] (FM X.K l)) (hij : i ≠ j := by decide) (him : i ≠ m := by decide) (hjm : j ≠ m := by decide) (hi : X.N[i]? = some x := by rfl) (hj : X.N[j]? = some y := by rfl) (hm : X.N[m]? = some z := by rfl)
    (hx : X.env.scope.names.lookup x = some .local := by rfl) (hy : X.env.scope.names.lookup y = some .local := by rfl) (hz : X.env.scope.names.lookup z = some .local := by rfl)
    (hw : swappedStores [.Tuple [.Name x px, .Name y py, .Name z pz] kt pt] (.Tuple [a, b, c] k2 pt2) X.env = pure (some [x, y, z]) := by rfl)
    (hs : swapsWithSole [.Tuple [.Name x px, .Name y py, .Name z pz] kt pt] (.Tuple [a, b, c] k2 pt2) pos.line X.env = pure false := by rfl) :
    PS X (.Assign [.Tuple [.Name x px, .Name y py, .Name z pz] kt pt] (.Tuple [a, b, c] k2 pt2) pos) (FS X.K (sParN [i, j, m] l)) :=
  ps_imp (ps_par3 hc hN hi hj hm hij him hjm hx hy hz ha hw hs) fun D σ H ⟨G, en, out, en', S, e1, k⟩ => by
    obtain ⟨⟨ds, en1⟩, p1, e2⟩ := Option.bind_eq_some_iff.mp e1
    obtain ⟨en2, p2, e3⟩ := Option.map_eq_some_iff.mp e2
    cases e3
    refine ⟨G, en, ds, en1, S, p1, fun vs G1 H1 T r => ?_⟩
    have hl := (resL_len r).trans (putAll_len p2).symm
    match vs, hl, r with
    | [v, w, u], _, r => exact ⟨v, w, u, rfl, k G1 H1 _ (put_all T.s r p2)⟩
/-! ### global constants -/
theorem fv_glob {x : Str} {v : V} {u : Value} {d : D} (hm : X.mg x = some u) (r : RelV v u) (h : ∀ G, Rep X.K G v d) (hg : Gl X x := by rfl) (hd : (x == ("__debug__" : Str)) = false := by decide) : PE X (.Name x pos) (FV X.K (fC d)) := fv_c (pe_glob hg hm r hd) h
/-! ### dict displays -/
def FPs (K : PySem.W.Frag) (f : Lv) (t : St → Hp → (List (V × V) → Hp → Prop) → Prop) : Prop := ∀ σ H Q, (∃ G en ds en', SR K G H en σ ∧ f en = some (ds, en') ∧ ∀ ps G' H', Step K en en' σ G H G' H' → Reps K G' (ps.flatMap fun p => [p.1, p.2]) ds → Q ps H') → t σ H Q
theorem fps_nil : FPs K lNil (tPairs []) := fun σ H Q ⟨G, en, ds, en', S, e1, k⟩ => by
  cases e1
  exact k [] G H (Step.refl S) .nil
theorem fps_cons {f g : Vv} {r : Lv} {trs : List (TE × TE)} (h : FPs K r (tPairs trs)) : FPs K (lCons f (lCons g r)) (tPairs ((FV K f, FV K g) :: trs)) := fun σ H Q ⟨G, en, ds, en', S, e1, k⟩ => by
  unfold lCons at e1
  split at e1
  · rename_i h1 en1 e2
    split at e1
    · rename_i h2 en2 e3
      cases e1
      split at e3
      · rename_i h3 en3 e4
        split at e3
        · rename_i h4 en4 e5
          cases e3
          refine ⟨G, en, h1, en1, S, e2, fun v G1 H1 T1 r1 => ⟨G1, en1, h3, en3, T1.sr, e4, fun w G2 H2 T2 r2 => ?_⟩⟩
          refine h σ H2 _ ⟨G2, en3, h4, _, T2.sr, e5, fun ps G3 H3 T3 r3 => ?_⟩
          exact k _ G3 H3 ((T1.trans T2).trans T3) (.cons (r1.mono (fun b o e => T3.ext.g _ _ (T2.ext.g b o e))) (.cons (r2.mono T3.ext.g) r3))
        · cases e3
      · cases e3
    · cases e1
  · cases e1
def pairsFlat : List D → Option (List (Key × D))
  | [] => some []
  | k :: v :: r => (keyOf k).bind fun k => (pairsFlat r).map fun t => (k, v) :: t
  | _ => none
theorem pairs_flat {G : Hp} : ∀ {ps : List (V × V)} {ds : List D} {ks : List (Key × D)}, Reps K G (ps.flatMap fun p => [p.1, p.2]) ds → pairsFlat ds = some ks → ∃ kvs : List (Key × V), ps = kvs.map (fun kv => (kV kv.1, kv.2)) ∧ RepPs K G kvs ks
  | [], _, ks, .nil, e => by cases e; exact ⟨[], rfl, .nil⟩
  | (x, y) :: ps, _, ks, .cons (d := d) r1 (.cons (d := d2) r2 r3), e => by
    obtain ⟨k, h1, h2⟩ := Option.bind_eq_some_iff.mp e
    obtain ⟨t, h3, h4⟩ := Option.map_eq_some_iff.mp h2
    subst h4
    have ek : x = kV k := keyV (H := G) (.inl r1) h1
    obtain ⟨kvs, w1, w2⟩ := pairs_flat r3 h3
    exact ⟨(k, y) :: kvs, by rw [w1, ek]; rfl, .cons r2 w2⟩
def fDisp (l : Lv) : Ev := fun en => (l en).bind fun x => (pairsFlat x.1).bind fun ks => if ks.length ≤ 15 then some (.dict (mergeD [] ks), true, x.2) else none
theorem RepPs.len {G : Hp} : ∀ {kvs : List (Key × V)} {ps : List (Key × D)}, RepPs K G kvs ps → kvs.length = ps.length
  | _, _, .nil => rfl
  | _, _, .cons _ t => by rw [List.length_cons, List.length_cons, t.len]
theorem fe_disp {keys : List (Option Expr)} {values : List Expr} {trs : List (TE × TE)} {l : Lv} (h : PPs X pos keys values trs) (hf : FPs X.K l (tPairs trs)) (hall : keys.all (·.isSome) = true := by rfl) (hl : keys.length = values.length := by rfl) (h0 : keys ≠ [] := by exact fun z => by cases z)
    (h15 : keys.length ≤ 15 := by decide) : PE X (.Dict keys values pos) (FE X.K (fDisp l)) :=
  pe_imp (pe_disp h hall hl h0 h15) fun σ H Q ⟨G, en, d, b, en', S, e1, k⟩ => by
    obtain ⟨⟨ds, en1⟩, p1, e2⟩ := Option.bind_eq_some_iff.mp e1
    obtain ⟨ks, p2, e3⟩ := Option.bind_eq_some_iff.mp e2
    obtain ⟨hk, e4⟩ := ite_some e3
    cases e4
    intro p hp
    have N0 := (New.own (o := .dK []) S.sub hp)
    have T0 := N0.step S
    have np : ∀ {en : En} {G0 H0 : Hp}, Step X.K en en1 σ G0 H0 G H0 → True := fun _ => trivial
    refine hf σ _ _ ⟨G, en, ds, en1, T0.sr, p1, fun ps G1 H1 T r => ?_⟩
    obtain ⟨kvs, w1, w2⟩ := pairs_flat r p2
    have no : ¬ OwnA en σ p := fun z => by
      obtain ⟨o, e, _⟩ := S.there z
      rw [hp] at e
      cases e
    have gp : G p = none := by
      cases e : G p with
      | none => rfl
      | some u =>
        have := S.sub p u e
        rw [hp] at this
        cases this
    have h1 : H1 p = some (.dK []) := T.ext.h p _ upd_same no
    have g1 : G1 p = none := T.ext.n p _ upd_same no gp
    have no1 : ¬ OwnA en1 σ p := fun z => no (T.own p z)
    refine ⟨h1, kvs, w1, by rw [w2.len]; exact hk, ?_⟩
    have ro : RepO X.K G1 (.dK (mergeK [] kvs)) (.dict (mergeD [] ks)) := .dK (w2.merge .nil)
    have T2 := T0.trans T
    have E : Ext (OwnA en σ) G H G1 (upd H1 p (.dK (mergeK [] kvs))) := ⟨T2.ext.g, fun b o e n => by
        have hb : b ≠ p := fun z => by rw [z, hp] at e; cases e
        rw [upd_ne hb]
        exact T2.ext.h b o e n, T2.ext.n, fun b e => by
        by_cases hb : b = p
        · rw [hb, upd_same] at e
          cases e
        · rw [upd_ne hb] at e
          exact T2.ext.t b e⟩
    have S2 : SR X.K G1 (upd H1 p (.dK (mergeK [] kvs))) en1 σ := by
      have Z := T.sr
      refine ⟨same_upd' Z.sub g1, Z.len, Z.shd, fun i d f q n => ?_, Z.sep⟩
      obtain ⟨a, o, e1, e2, e3, e4⟩ := Z.own i d f q n
      have ha : a ≠ p := fun z => no1 ⟨i, d, f, q, n, by rw [← z]; exact e1⟩
      exact ⟨a, o, e1, e2, by rw [upd_ne ha]; exact e3, e4⟩
    exact k _ G1 _ ⟨E, S2, T2.own, T2.lent⟩ ⟨p, _, rfl, .inl hp, no1, upd_same, g1, ro⟩
end
end Fx
/-! Fx10: sorted, min, max of data. -/
namespace Fx
open PySem PySem.Spec L2
section
variable {X : Cx} {pins : List (Addr × Obj)} {σ : St} {H : Hp} {s : Shared}
def Col (X : Cx) (pins : List (Addr × Obj)) (σ : St) (s : Shared) (v : Value) (T : Hp → List V → Prop) : Prop :=
  ∀ (R : List Value → Shared → Prop) (E : Value → Shared → Prop), (∀ us ys H2 h' tk, Vals ys us → Inv X pins σ H2 { s with heap := h', toks := tk } → T H2 ys → R us { s with heap := h', toks := tk }) → wpAny (model X.prog X.w) X.A.in1 (collect v) R E s
def Just (H : Hp) (ys : List V) : Hp → List V → Prop := fun H2 zs => H2 = H ∧ zs = ys
theorem col_list {a : Addr} {ys : List V} (I : Inv X pins σ H s) (h : SqL X.K H a ys) : Col X pins σ s (.ref a) (Just H ys) := fun R E k => by
  obtain ⟨its, rv, ⟨o, n, ho, hc, hd, hh⟩, hz⟩ := I.list h
  refine PySem.wpAny_collect_seq a (.inl rfl) ho hc hh (fun h' kp => ?_) (by rw [List.size_toArray, ← rv.length]; exact hz)
  exact k _ ys H h' s.toks (by simpa using rv) (I.kept (t' := s.toks) kp) ⟨rfl, rfl⟩
theorem col_tup {a : Addr} {ys : List V} (I : Inv X pins σ H s) (h : SqT X.K H a ys) : Col X pins σ s (.ref a) (Just H ys) := fun R E k => by
  obtain ⟨its, rv, ⟨o, ho, hc, n, hd⟩, hz⟩ := I.tuple h
  refine PySem.wpAny_collect_seq a (.inr rfl) ho hc hd (fun h' kp => ?_) (by rw [List.size_toArray, ← rv.length]; exact hz)
  exact k _ ys H h' s.toks (by simpa using rv) (I.kept (t' := s.toks) kp) ⟨rfl, rfl⟩
theorem vals_nth : ∀ {ys : List V} {us : List Value}, us.length = ys.length → (∀ (j : Nat) (v : Value), us[j]? = some v → ∃ x, ys[j]? = some x ∧ RelV x v) → Vals ys us
  | [], [], _, _ => .nil
  | [], _ :: _, h, _ => by cases h
  | _ :: _, [], h, _ => by cases h
  | y :: ys, u :: us, h, k => by
    obtain ⟨x, e, r⟩ := k 0 u rfl
    cases e
    exact .cons r (vals_nth (Nat.succ.inj h) fun j v e => k (j + 1) v e)
theorem col_dict (hc : X.calm = true) {a : Addr} {kvs : List (Key × V)} (I : Inv X pins σ H s) (h : Rd H a (.dK kvs)) : Col X pins σ s (.ref a) (Just H (kvs.map fun kv => kV kv.1)) := fun R E k => by
  obtain ⟨z, lo, vs, rel, dd⟩ := dk_rd I.hok h
  obtain ⟨ep, hat⟩ := dd.dictAt
  have hkeys : vs.map (·.1) = kvs.map (·.1) := rel.keys.symm
  have hl : vs.length = kvs.length := by
    have e := congrArg List.length hkeys
    rw [List.length_map, List.length_map] at e
    exact e
  refine PySem.W.kdu_collect (A := X.A.in1) (PySem.W.kdl_dict (knd := mixKind X.prog X.w) (kvs := vs) (ep := ep) lo) (I.ok.hd hc) hat (by rw [hl]; exact z) fun h' tk acc hk hacc => ?_
  refine k _ _ H h' tk (vals_nth (by rw [Array.length_toList, hacc.1, hl, List.length_map]) fun j v e => ?_) (I.kept hk) ⟨rfl, rfl⟩
  obtain ⟨kk, x, e1, e2⟩ := hacc.2 j v (by rw [← Array.getElem?_toList]; exact e)
  have e3 : (vs.map (·.1))[j]? = some kk := by rw [List.getElem?_map, e1]; all_goals rfl
  rw [hkeys, List.getElem?_map] at e3
  obtain ⟨kv, e4, e5⟩ := Option.map_eq_some_iff.mp e3
  refine ⟨kV kv.1, by rw [List.getElem?_map, e4]; rfl, ?_⟩
  rw [e5]
  rcases keyIs_shape e2 with ⟨i, t, e6, e7⟩ | ⟨x, t, e6, e7⟩
  · rw [e6, e7]
    exact ⟨t, rfl⟩
  · rw [e6, e7]
    exact ⟨t, rfl⟩
theorem paired_out {R : V → D → Prop} : ∀ {out : List Value} {ds : List D}, PySem.W.EachIs (fun u d => ∃ x, RelV x u ∧ R x d) out ds → ∃ zs, Vals zs out ∧ Paired R zs ds
  | _, _, .nil => ⟨[], .nil, .nil⟩
  | _, _, .cons ⟨x, r1, r2⟩ t => by
    obtain ⟨zs, h1, h2⟩ := paired_out t
    exact ⟨x :: zs, .cons r1 h1, .cons r2 h2⟩
theorem paired_in {R : V → D → Prop} : ∀ {ys : List V} {us : List Value} {ds : List D}, Vals ys us → Paired R ys ds → PySem.W.EachIs (fun u d => ∃ x, RelV x u ∧ R x d) us ds
  | _, _, _, .nil, .nil => .nil
  | _, _, _, .cons r1 t, .cons r2 t2 => .cons ⟨_, r1, r2⟩ (paired_in t t2)
def srtD (ds : List D) : List D := ds.mergeSort (PySem.W.dataLe false fun d : D => d)
/-- may such data be sorted -/
def sortOk (ds : List D) : Bool := decide (ds.length ≤ sizeLine) && ds.all (fun d => ds.all fun e => PySem.W.alike d e) && (ds.all (fun d => match d with
  | .tuple (_ :: _) => true
  | _ => false) || ds.all (fun d => match d with
  | .tuple _ => false
  | .none => false
  | _ => true)) && ds.all fun d => decide (d.depth < 40)
theorem sortOk_of {ds : List D} (h : sortOk ds = true) : ds.length ≤ sizeLine ∧ PySem.W.AllAlike ds ∧ PySem.W.Sortable ds ∧ ∀ d ∈ ds, d.depth < 40 := by
  unfold sortOk at h
  rw [Bool.and_eq_true, Bool.and_eq_true, Bool.and_eq_true, Bool.or_eq_true] at h
  obtain ⟨⟨⟨h1, h2⟩, h3⟩, h4⟩ := h
  refine ⟨of_decide_eq_true h1, fun d hd e he => ?_, ?_, fun d hd => of_decide_eq_true (List.all_eq_true.mp h4 d hd)⟩
  · exact List.all_eq_true.mp (List.all_eq_true.mp h2 d hd) e he
  · rcases h3 with h3 | h3
    · refine .inl fun d hd => ?_
      have := List.all_eq_true.mp h3 d hd
      split at this
      · exact ⟨_, _, rfl⟩
      · cases this
    · refine .inr fun d hd => ?_
      have := List.all_eq_true.mp h3 d hd
      split at this
      · cases this
      · cases this
      · rename_i n1 n2
        exact ⟨fun e => n2 e, fun xs e => n1 xs e⟩
/-- the sort of what was collected -/
theorem sort_run {x : Value} {T : Hp → List V → Prop} {ds : List D} {Q : VK} (hu : X.A.units + 64 < cLine) (C : Col X pins σ s x T) (ok : sortOk ds = true)
    (hT : ∀ H ys, T H ys → DpAll X.K H ys ds ∧ ∃ R : V → D → Prop, Paired R ys ds ∧ ∀ p zs, H p = none → Paired R zs (srtD ds) → Q (.ref p) (upd H p (.lst zs))) : wpAny (model X.prog X.w) X.A (call (.builtin "sorted") [x]) (EP X pins σ Q) X.xe s := by
  obtain ⟨hz, hal, hk, hd⟩ := sortOk_of ok
  refine Calls.call_function_entry PyProof.Rows.kind_sorted PyProof.Rows.plain_sorted PyProof.Rows.entry_sorted (PyProof.Rows.args_sorted1 _) ?_
  unfold Builtin.«sorted»
  refine wpAny_bind (m := checkCount "sorted" 1 1 _) (wpAny_pure ?_)
  refine wpAny_bind (C _ _ fun us ys H h' tk rv I hh => ?_)
  obtain ⟨dp, R, pr, q⟩ := hT H ys hh
  have hl : us.length = ds.length := rv.length.symm.trans pr.length
  refine wpAny_bind (wpAny_newList ?_ (by rw [hl]; exact hz))
  have hoL : (h'.push (PyProof.Rows.seqObj "list" us.toArray 0)).get? h'.objs.size = some (PyProof.Rows.seqObj "list" us.toArray 0) := Heap.get?_push_size _ rfl
  show wpAny _ _ _ _ _ { s with heap := h'.push (PyProof.Rows.seqObj "list" us.toArray 0), toks := tk }
  have hn : H h'.objs.size = none := I.hok.fresh (Nat.le_refl _)
  have er : PySem.W.EachIs (fun v d => ∃ as, Reads (PySem.W.sortingHeap (h'.push (PyProof.Rows.seqObj "list" us.toArray 0)) h'.objs.size us) v d as) us ds := by
    obtain ⟨as, ra⟩ := Dp.readsAll I ds ys us dp rv
    have e0 := PySem.W.readsAll_each (fun d : D => d) (bs := ds) (by rw [List.map_id']; exact ra)
    exact e0.mono fun v d ⟨as, r⟩ => ⟨as, PyProof.Rows.Reads.keeps (fun b o e => PySem.W.sortingHeap_old (Nat.ne_of_lt (Heap.lt_size e)) (Heap.get?_push_of_some _ e)) r⟩
  have eR := paired_in rv pr
  have S : PySem.W.SortsAt X.prog X.w X.A.in1.in1 { s with heap := PySem.W.sortingHeap (h'.push (PyProof.Rows.seqObj "list" us.toArray 0)) h'.objs.size us, toks := tk } (PySem.W.dataKind (PySem.W.sortingHeap (h'.push (PyProof.Rows.seqObj "list" us.toArray 0)) h'.objs.size us) ds) us :=
    PySem.W.SortsAt.data (s := { s with heap := PySem.W.sortingHeap (h'.push (PyProof.Rows.seqObj "list" us.toArray 0)) h'.objs.size us, toks := tk }) er hal hk fun d hm => by
      have h1 := hd d hm
      have h2 : X.A.in1.in1.units ≤ X.A.units + 2 := by
        first | rfl | exact Nat.le_refl _ | decide
      omega
  refine wpAny_bind (wpAny_holding (PySem.wpAny_call_entry PyProof.Rows.slot_list_sort ⟨_, hoL, rfl⟩ PyProof.Rows.entry_list_sort (PySem.W.list_sort_vals (s := { s with heap := h'.push (PyProof.Rows.seqObj "list" us.toArray 0), toks := tk }) hoL S (by rw [hl]; exact hz) ?_) (PyProof.Rows.args_list_sort _)))
  refine ⟨_, rfl, wpAny_pure ⟨_, rfl, ?_⟩⟩
  have eo := PySem.W.sortVals_data (enc := fun d : D => d) false eR er (by rw [List.map_id']; exact hal)
  rw [List.map_id'] at eo
  obtain ⟨zs, rz, pz⟩ := paired_out eo
  generalize hO : PySem.W.sortVals (PySem.W.dataKind (PySem.W.sortingHeap (h'.push (PyProof.Rows.seqObj "list" us.toArray 0)) h'.objs.size us) ds) false us us = out at rz ⊢
  obtain ⟨n, hat⟩ := PyProof.Rows.sortedHeap_at (vs := us) (out := out.toArray) hoL
  have hlt : h'.objs.size < (h'.push (PyProof.Rows.seqObj "list" us.toArray 0)).objs.size := Heap.lt_size hoL
  have kp : ∀ b o, h'.get? b = some o → (PyProof.Rows.sortedHeap (h'.push (PyProof.Rows.seqObj "list" us.toArray 0)) h'.objs.size us out.toArray).get? b = some o := fun b o e => by
    have hb : b < h'.objs.size := Heap.lt_size e
    rw [PyProof.Rows.sortedHeap_old (Nat.ne_of_lt hb) (Nat.lt_trans hb hlt)]
    exact Heap.get?_push_of_some _ e
  refine ⟨.ref h'.objs.size, upd H h'.objs.size (.lst zs), I.laid (t' := tk) kp (Nat.le_refl _) ⟨?_, out, n, rz, hat⟩, rfl, q _ zs hn pz⟩
  rw [pz.length, List.length_mergeSort]
  exact hz
/-! ### sorted -/
def rSortG (K : PySem.W.Frag) : List V → Hp → VK → Prop := fun vs H Q => ∃ (a : Addr) (ys : List V) (ds : List D) (R : V → D → Prop), vs = [.ref a] ∧ (SqL K H a ys ∨ SqT K H a ys ∨ ∃ kvs, Rd H a (.dK kvs) ∧ ys = kvs.map fun kv => kV kv.1) ∧
  DpAll K H ys ds ∧ Paired R ys ds ∧ sortOk ds = true ∧ ∀ p zs, H p = none → Paired R zs (srtD ds) → Q (.ref p) (upd H p (.lst zs))
theorem cr_sortG (hc : X.calm = true) (hu : X.A.units + 64 < cLine) : CallR X (.builtin "sorted") (rSortG X.K) := by
  intro pins s σ H xs us Q I r ⟨a, ys, ds, R, e, h, dp, pr, ok, q⟩
  subst e
  obtain ⟨u, rfl, rx⟩ := Vals.one r
  cases rx
  have hT : ∀ H' zs, Just H ys H' zs → DpAll X.K H' zs ds ∧ ∃ R : V → D → Prop, Paired R zs ds ∧ ∀ p zs, H' p = none → Paired R zs (srtD ds) → Q (.ref p) (upd H' p (.lst zs)) := by
    rintro _ _ ⟨rfl, rfl⟩
    exact ⟨dp, R, pr, q⟩
  rcases h with h | h | ⟨kvs, h, e⟩
  · exact sort_run hu (col_list I h) ok hT
  · exact sort_run hu (col_tup I h) ok hT
  · subst e
    exact sort_run hu (col_dict hc I h) ok hT
theorem reps_dp {K : PySem.W.Frag} {G H : Hp} (s : Same G H) : ∀ {xs : List V} {ds : List D}, Reps K G xs ds → (∀ d ∈ ds, d.canLay0 = true) → DpAll K H xs ds
  | _, _, .nil, _ => .nil
  | _, _, .cons h t, c => .cons (Use.dp s (.inl h) (c _ (List.mem_cons_self ..))) (reps_dp s t fun d hd => c d (List.mem_cons_of_mem _ hd))
theorem reps_pair {K : PySem.W.Frag} {G : Hp} : ∀ {xs : List V} {ds : List D}, Reps K G xs ds → Paired (Rep K G) xs ds
  | _, _, .nil => .nil
  | _, _, .cons h t => .cons h (reps_pair t)
theorem pair_reps {K : PySem.W.Frag} {G : Hp} : ∀ {xs : List V} {ds : List D}, Paired (Rep K G) xs ds → Reps K G xs ds
  | _, _, .nil => .nil
  | _, _, .cons h t => .cons h (pair_reps t)
def seqK : D → Option (List D)
  | .list ds => some ds
  | .tuple ds => some ds
  | .dict es => some (es.map (·.1))
  | _ => none
def layOk (ds : List D) : Bool := ds.all fun d => d.canLay0
def dSort : List D → Option (D × Bool)
  | [d] => (seqK d).bind fun ds => if sortOk ds = true ∧ layOk ds = true then some (.list (srtD ds), true) else none
  | _ => none
theorem repKV_keys {K : PySem.W.Frag} {G : Hp} : ∀ {kvs : List (Key × V)} {es : List (D × D)}, RepKV K G kvs es → Reps K G (kvs.map fun kv => kV kv.1) (es.map (·.1))
  | _, _, .nil => .nil
  | _, _, .cons (k := k) h t => .cons (by cases k; exact .int _; exact .str _) (repKV_keys t)
theorem on_sort {K : PySem.W.Frag} : OpN K (rSortG K) dSort := fun vs ds z b G H Q s u hg k => by
  unfold dSort at hg
  split at hg
  · obtain ⟨ds, h1, h2⟩ := Option.bind_eq_some_iff.mp hg
    obtain ⟨⟨ok, lay⟩, h3⟩ := ite_some h2
    cases h3
    obtain ⟨v, rfl, u0⟩ := u.one
    have lay' : ∀ d ∈ ds, d.canLay0 = true := fun d hd => List.all_eq_true.mp lay d hd
    have fin : ∀ (p : Addr) (zs : List V), H p = none → Paired (Rep K G) zs (srtD ds) → Q (.ref p) (upd H p (.lst zs)) := fun p zs hp pz => k _ _ _ (New.own s hp) (Fresh.new s hp (.lst (pair_reps pz)))
    unfold seqK at h1
    split at h1
    · cases h1
      obtain ⟨a, xs, rfl, h, r⟩ := u0.list s
      exact ⟨a, xs, _, Rep K G, rfl, .inl h, reps_dp s r lay', reps_pair r, ok, fin⟩
    · cases h1
      obtain ⟨a, xs, rfl, h, r⟩ := u0.tuple s
      exact ⟨a, xs, _, Rep K G, rfl, .inr (.inl h), reps_dp s r lay', reps_pair r, ok, fin⟩
    · cases h1
      obtain ⟨a, kvs, rfl, h, r⟩ := u0.dict s
      exact ⟨a, _, _, Rep K G, rfl, .inr (.inr ⟨kvs, h, rfl⟩), reps_dp s (repKV_keys r) lay', reps_pair (repKV_keys r), ok, fin⟩
    · cases h1
  · cases hg
/-! ### the pairs of a dict, laid as tuples -/
theorem un_more {fs ex : List Addr} {H H1 : Hp} {h h' : Heap} {a : Addr} {o : HO} (u : Un fs ex H H1 h h') (ha : h.get? a = none) (hn : H1 a = none) : Un fs ex H (upd H1 a o) h h' where
  keep := u.keep
  slot := u.slot
  free := fun b v q n x => by rw [upd_ne (fun z => by rw [z, ha] at q; cases q)]; exact u.free b v q n x
  there := u.there
  tups := fun b xs q => by
    have e := u.tups b xs q
    rw [upd_ne (ne_of_none e hn)]; exact e
  frzs := fun b v xs q => by
    have e := u.frzs b v xs q
    rw [upd_ne (ne_of_none e hn)]; exact e
  tbls := fun b ps q => by
    obtain ⟨m, e⟩ := u.tbls b ps q
    exact ⟨m, by rw [upd_ne (ne_of_none e hn)]; exact e⟩
inductive ItM : Hp → List (Key × V) → Hp → List V → Prop
  | nil {H : Hp} : ItM H [] H []
  | cons {H H2 : Hp} {p : Addr} {o : Obj} {k : Key} {v : V} {r : List (Key × V)} {ys : List V} : H p = none → o.dict = none → ItM (upd H p (.frz o (.tup [kV k, v]))) r H2 ys → ItM H ((k, v) :: r) H2 (.ref p :: ys)
theorem kV_of {k : Key} {u : Value} (h : keyIs k u = true) : RelV (kV k) u := by
  rcases keyIs_shape h with ⟨i, t, e6, e7⟩ | ⟨x, t, e6, e7⟩
  · rw [e6, e7]
    exact ⟨t, rfl⟩
  · rw [e6, e7]
    exact ⟨t, rfl⟩
theorem items_laid {h h' : Heap} {P : Program} {w : World} {fs ex : List Addr} {H0 : Hp} (sz : 2 ≤ sizeLine) : ∀ {kvs : List (Key × V)} {vs : List (Key × Value)} {as : List Addr} {H : Hp}, KV kvs vs → as.length = vs.length → Un fs ex H0 H h h' → HOk P w H h' → (∀ a ∈ as, h.get? a = none ∧ H a = none) → as.Nodup →
    (∀ (j : Nat) (a : Addr), as[j]? = some a → ∃ key k x, vs[j]? = some (k, x) ∧ keyIs k key = true ∧ h'.get? a = some { cls := .type "tuple", data := .seq #[key, x] }) →
    ∃ H2 ys, ItM H kvs H2 ys ∧ Vals ys (as.map Value.ref) ∧ Un fs ex H0 H2 h h' ∧ HOk P w H2 h'
  | [], [], as, H, .nil, hl, u, ok, _, _, _ => by
    cases as with
    | nil => exact ⟨H, [], .nil, .nil, u, ok⟩
    | cons _ _ => cases hl
  | (k, v) :: kvs, _, as, H, .cons (b := q) (l₂ := vs) hr t, hl, u, ok, hf, nd, hp => by
    cases as with
    | nil => cases hl
    | cons a as =>
      obtain ⟨key, k', x, e1, e2, e3⟩ := hp 0 a rfl
      cases e1
      obtain ⟨ek, rv⟩ := hr
      have ek : k = k' := ek
      subst ek
      obtain ⟨f1, f2⟩ := hf a (List.mem_cons_self ..)
      have ok1 : HOk P w (upd H a (.frz { cls := .type "tuple", data := .seq #[key, x] } (.tup [kV k, v]))) h' := HOk.laidN ok (fun _ _ e => e) f2 ⟨e3, sz, [key, x], .cons (kV_of e2) (.cons rv .nil), ⟨_, e3, rfl, _, rfl⟩⟩
      have nd' := List.nodup_cons.mp nd
      obtain ⟨H2, ys, w1, w2, w3, w4⟩ := items_laid sz (as := as) t (Nat.succ.inj hl) (un_more u f1 f2) ok1 (fun b hb => ⟨(hf b (List.mem_cons_of_mem _ hb)).1, by
        rw [upd_ne (fun z => nd'.1 (by rw [← z]; exact hb))]
        exact (hf b (List.mem_cons_of_mem _ hb)).2⟩) nd'.2 fun j b e => hp (j + 1) b e
      exact ⟨H2, _, .cons f2 rfl w1, .cons rfl w2, w3, w4⟩
theorem col_items (hc : X.calm = true) {p a : Addr} {kvs : List (Key × V)} (I : Inv X pins σ H s) (hp : H p = some (DX.itemsO p a)) (h : Rd H a (.dK kvs)) : Col X pins σ s (.ref p) (fun H2 ys => ItM H kvs H2 ys) := fun R E k => by
  have view : s.heap.IsItemsView p a := (show ObjOk X.prog X.w H s.heap p (DX.itemsO p a) from I.hok p _ hp).1
  obtain ⟨z, lo, vs, rel, dd⟩ := dk_rd I.hok h
  obtain ⟨ep, hat⟩ := dd.dictAt
  refine PySem.W.kdx_collect (A := X.A.in1) (knd := mixKind X.prog X.w) (I.ok.hd hc) view hat (by rw [← rel.length]; exact z) fun h' tk as hk hl g => ?_
  have nd : as.Nodup := List.Pairwise.imp (fun h => Nat.ne_of_lt h) g.rise
  have ab : ∀ b ∈ as, s.heap.get? b = none ∧ H b = none := fun b hb => by
    have h1 := Nat.le_of_lt (g.above b hb)
    refine ⟨?_, I.hok.fresh h1⟩
    cases e : s.heap.get? b with
    | none => rfl
    | some o => exact absurd (Heap.lt_size e) (Nat.not_lt.mpr h1)
  have I1 : Inv X pins σ H { s with heap := h', toks := tk } := I.kept hk
  obtain ⟨H2, ys, w1, w2, w3, w4⟩ := items_laid (P := X.prog) (w := X.w) (fs := X.fs) (ex := []) (H0 := H) (h := s.heap) (by rw [sizeLine_eq]; omega) rel hl (by
      exact ⟨fun b u q _ _ _ => hk b u q, fun b u q _ _ _ => ⟨u.slots, hk b u q⟩, fun b u q n _ => n, fun b u q _ => ⟨u, hk b u q⟩, fun _ _ q => q, fun _ _ _ q => q, fun b ps q => ⟨#[], by rw [q]; simp⟩⟩) I1.hok ab nd g.pairs
  exact k _ ys H2 h' tk w2 (I.un w3 w4) w1
/-! ### d.items() -/
def rItemsK (K : PySem.W.Frag) : V → List V → Hp → VK → Prop := fun x xs H Q => ∃ (a : Addr) (kvs : List (Key × V)), x = .ref a ∧ xs = [] ∧ Rd H a (.dK kvs) ∧ ∀ p, H p = none → Q (.ref p) (upd H p (DX.itemsO p a))
theorem mt_itemsK : MtR X "dict.items" (rItemsK X.K) := by
  intro pins s σ H x xs v us Q I rx rxs ⟨a, kvs, e1, e2, ha, q⟩
  subst e1
  subst e2
  cases rx
  cases rxs
  obtain ⟨z, lo, vs, rel, dd⟩ := dk_rd I.hok ha
  obtain ⟨ep, o, es, ho, hx, hdat, _⟩ := dd.dictAt
  refine DT.callItems (es := es) (ep := ep) lo ⟨o, ho, hx, hdat⟩ ?_
  have hf : H s.heap.objs.size = none := I.hok.fresh (Nat.le_refl _)
  exact ⟨.ref s.heap.objs.size, upd H s.heap.objs.size (DX.itemsO s.heap.objs.size a), I.laid (t' := s.toks) (fun b u e => Heap.get?_push_of_some _ e) (Nat.le_refl _) (DX.itemsO_ok (Heap.get?_push_size _ rfl)), rfl, q _ hf⟩
/-- sorted(d.items()) -/
def rSortIK (K : PySem.W.Frag) : List V → Hp → VK → Prop := fun vs H Q => ∃ (p a : Addr) (kvs : List (Key × V)) (ds : List D), vs = [.ref p] ∧ H p = some (DX.itemsO p a) ∧ Rd H a (.dK kvs) ∧ sortOk ds = true ∧
  ∀ H2 ys, ItM H kvs H2 ys → DpAll K H2 ys ds ∧ ∃ R : V → D → Prop, Paired R ys ds ∧ ∀ p zs, H2 p = none → Paired R zs (srtD ds) → Q (.ref p) (upd H2 p (.lst zs))
theorem cr_sortIK (hc : X.calm = true) (hu : X.A.units + 64 < cLine) : CallR X (.builtin "sorted") (rSortIK X.K) := by
  intro pins s σ H xs us Q I r ⟨p, a, kvs, ds, e, hp, h, ok, q⟩
  subst e
  obtain ⟨u, rfl, rx⟩ := Vals.one r
  cases rx
  exact sort_run hu (col_items hc I hp h) ok q
theorem repKV_items {K : PySem.W.Frag} : ∀ {kvs : List (Key × V)} {es : List (D × D)} {G H H2 : Hp} {ys : List V}, ItM H kvs H2 ys → RepKV K G kvs es → Same G H → ∃ G2, New G H G2 H2 ∧ Reps K G2 ys (es.map fun p => .tuple [p.1, p.2])
  | _, _, G, H, _, _, .nil, .nil, s => ⟨G, New.refl s, .nil⟩
  | _, _, G, H, H2, _, .cons (p := p) (o := o) (k := k) (v := v) hp ho t, .cons h rt, s => by
    have N := New.shd (o := .frz o (.tup [kV k, v])) s hp
    obtain ⟨G2, N2, r2⟩ := repKV_items t (rt.mono N.ext.g) N.sub
    refine ⟨G2, ⟨N.ext.trans N2.ext fun _ h => .inl h, N2.sub⟩, .cons ?_ r2⟩
    refine Rep.mono N2.ext.g (.tup (.inl ⟨o, upd_same, ho⟩) (.cons ?_ (.cons (h.mono N.ext.g) .nil)))
    cases k
    · exact .int _
    · exact .str _
def dSortI : D → Option (D × Bool)
  | .dict es => if sortOk (es.map fun p => .tuple [p.1, p.2]) = true ∧ layOk (es.map fun p => .tuple [p.1, p.2]) = true then some (.list (srtD (es.map fun p => .tuple [p.1, p.2])), true) else none
  | _ => none
theorem fe_sortI {o : Expr} {p : Ov} {np apos cpos pos : Pos} (hc : X.calm = true) (hu : X.A.units + 64 < cLine) (hm : X.mg "sorted" = none) (ho : PE X o (FO X.K p)) (hg : Gl X "sorted" := by rfl) (hbase : attributeBase o "items" X.env (eval o X.env) = eval o X.env := by rfl) (hline : (apos.endLine == cpos.line) = true := by rfl)
    (he : starEach [.Call (.Attribute o "items" apos) [] [] cpos] X.env = [(false, eval (.Call (.Attribute o "items" apos) [] [] cpos) X.env)] := by rfl) (hpl : (backTo pos (starEach [] X.env)).any (·.1) = false := by rfl) :
    PE X (.Call (.Name "sorted" np) [.Call (.Attribute o "items" apos) [] [] cpos] [] pos) (FE X.K (f1 p dSortI)) :=
  pe_imp (pe_callB (cr_sortIK hc hu) hg hm (by decide +kernel) (pa_cons (pe_mG0 (kindD X).ok PySem.F.plainAttrs_dict PySem.F.slot_dict_items PySem.F.type_dict_items mt_itemsK ho hbase hline) pa_nil he) (by decide) (by decide) he hpl) fun σ H Q ⟨G, en, d, b, en', S, e1, k⟩ => by
    obtain ⟨⟨x, en1⟩, p1, e2⟩ := Option.bind_eq_some_iff.mp e1
    obtain ⟨d0, p3, e4⟩ := Option.bind_eq_some_iff.mp e2
    obtain ⟨⟨z', b'⟩, p5, e6⟩ := Option.map_eq_some_iff.mp e4
    cases e6
    unfold dSortI at p5
    split at p5
    · obtain ⟨⟨ok, lay⟩, e7⟩ := ite_some p5
      cases e7
      refine ⟨G, en, x, en1, S, p1, fun v G1 H1 T1 r1 => ?_⟩
      have U := r1.use T1.sr p3
      obtain ⟨a, kvs, rfl, h, r⟩ := U.dict T1.sr.sub
      refine ⟨(kindD X).use T1.sr.sub U rfl, a, kvs, rfl, rfl, h, fun q hq => ?_⟩
      have N0 := New.own (o := DX.itemsO q a) T1.sr.sub hq
      refine ⟨q, a, kvs, _, rfl, upd_same, rdS (fun b o e => N0.ext.h b o e (fun z => z)) h, ok, fun H2 ys im => ?_⟩
      obtain ⟨G2, N2, r2⟩ := repKV_items im r N0.sub
      refine ⟨reps_dp N2.sub r2 fun d hd => List.all_eq_true.mp lay d hd, Rep X.K G2, reps_pair r2, fun l zs hl pz => ?_⟩
      have N3 := New.own (o := .lst zs) N2.sub hl
      have N : New G1 H1 G2 (upd H2 l (.lst zs)) := ⟨(N0.ext.trans N2.ext fun _ h => .inl h).trans N3.ext fun _ h => .inl h, N3.sub⟩
      refine k _ _ _ (T1.trans (N.step T1.sr)) (Fresh.res' T1 ?_)
      obtain ⟨a, o, e, q1, q2, q3, q4, q5⟩ := Fresh.new (K := X.K) N2.sub hl (.lst (pair_reps pz))
      refine ⟨a, o, e, .inl ?_, q2, q3, q4, q5⟩
      cases e
      exact N0.ext.t l (N2.ext.t l hl)
    · cases p5
end
end Fx
/-! Fx11: several names by a tuple, list(range(..)). -/
namespace Fx
open PySem PySem.Spec L2
section
variable {K : PySem.W.Frag} {X : Cx} {a b e o : Expr} {es : List Expr} {pos p apos cpos : Pos}
theorem resL_step {O : Addr → Prop} {H0 : Hp} {G H G1 H1 : Hp} {en : En} {σ : St} (T : Step K en en σ G H G1 H1) : ∀ {vs : List V} {ds : List (D × Bool)}, ResL K O H0 (OwnA en σ) G H vs ds → ResL K O H0 (OwnA en σ) G1 H1 vs ds
  | _, _, .nil => .nil
  | _, _, .cons (b := b) r t => by
    refine .cons ?_ (resL_step T t)
    cases b with
    | false => exact Rep.mono T.ext.g r
    | true =>
      obtain ⟨a, o, e, q1, q2, q3, q4, q5⟩ := r
      have n : ¬ OwnA en σ a := fun z => q2 (.inl z)
      exact ⟨a, o, e, q1, q2, T.ext.h a o q3 n, T.ext.n a o q3 n q4, q5.mono T.ext.g⟩
def gNs (is : List Nat) : TGs := fun vs σ H Q => vs.length = is.length ∧ Q (stAll is vs σ) H
theorem gns_nil : PGs X [] (gNs []) := pgs_imp pgs_nil fun vs σ H Q ⟨hl, q⟩ => by
  cases vs with
  | nil => exact ⟨rfl, q⟩
  | cons _ _ => cases hl
theorem gns_cons {i : Nat} {is : List Nat} {x : Str} (hN : X.N.Nodup) (h2 : PGs X es (gNs is)) (hi : X.N[i]? = some x := by rfl) (hx : Loc X.env.scope x := by first | exact .inl rfl | exact .inr rfl) (hf : X.fn x = true ∨ X.env.scope.names.lookup x = some .local := by first | exact .inl rfl | exact .inr rfl | assumption)
    (hs : (assignEach (.Name x pos :: es) X.env).map (·.2) = assign (.Name x pos) X.env :: (assignEach es X.env).map (·.2) := by rfl) : PGs X (.Name x pos :: es) (gNs (i :: is)) :=
  pgs_imp (pgs_cons (pg_name hN hi hx hf) h2 hs) fun vs σ H Q ⟨hl, q⟩ => by
    cases vs with
    | nil => cases hl
    | cons v vs => exact ⟨v, vs, rfl, Nat.succ.inj hl, q⟩
theorem fs_parT {ns : List Expr} {is : List Nat} {l : Mv} {k1 x1} {p1 p2 : Pos} {n : Nat} (hc : X.calm = true) (hn : PGs X ns (gNs is)) (ha : PA X es (FM X.K l)) (hs : swapsWithSole [.Tuple ns k1 p1] (.Tuple es x1 p2) pos.line X.env = pure false := by rfl) (hw : swappedStores [.Tuple ns k1 p1] (.Tuple es x1 p2) X.env = pure none := by rfl)
    (h1 : (assignEach [.Tuple ns k1 p1] X.env).map (·.2) = [assign (.Tuple ns k1 p1) X.env] := by rfl) (hm : (assignEach ns X.env).length = n := by rfl) (hst : (assignEach ns X.env).findIdx? (·.1) = none := by rfl) (hi : is.length = n := by rfl) (hz : is.length ≤ 100 := by decide) :
    PS X (.Assign [.Tuple ns k1 p1] (.Tuple es x1 p2) pos) (FS X.K (sParN is l)) := ps_imp (ps_asg (pe_tupZ ha) (pg_tup hc hn hm hst) hs hw h1) fun D σ H ⟨G, en, out, en', S, e1, k⟩ => by
  obtain ⟨⟨ds, en1⟩, q1, e2⟩ := Option.bind_eq_some_iff.mp e1
  obtain ⟨en2, q2, e3⟩ := Option.map_eq_some_iff.mp e2
  cases e3
  refine ⟨G, en, ds, en1, S, q1, fun vs G1 H1 T r => ?_⟩
  have hl := (resL_len r).trans (putAll_len q2).symm
  refine ⟨by rw [hl, sizeLine_eq]; omega, fun q o hq ho => ?_⟩
  have N := New.own (o := .frz o (.tup vs)) T.sr.sub hq
  have T2 := N.step T.sr
  refine ⟨q, vs, rfl, .inl (.inr ⟨o, upd_same⟩), hl.trans hi, hl, ?_⟩
  exact k G1 _ _ (put_all (T.trans T2).s (resL_step T2 r) q2)
/-! ### list(range(..)) -/
def rgD (i j : Int) : List D := (List.range (j - i).toNat).map fun n => .int (i + (n : Nat))
theorem reps_rg {G : Hp} (i j : Int) : Reps K G (rgV i j) (rgD i j) := by
  unfold rgV rgD
  have go : ∀ l : List Nat, Reps K G (l.map fun n => V.int (i + (n : Nat))) (l.map fun n => .int (i + (n : Nat))) := by
    intro l
    induction l with
    | nil => exact .nil
    | cons c r ih => exact .cons (.int _) ih
  exact go _
def rgOk (i j : Int) : Bool := decide (-(2 ^ 62) ≤ i) && decide (i < 2 ^ 62) && decide (-(2 ^ 62) ≤ j) && decide (j < 2 ^ 62) && decide ((j - i).toNat ≤ 2 ^ 24)
theorem rgOk_of {i j : Int} (h : rgOk i j = true) : RgOk i j := by
  unfold rgOk at h
  simp only [Bool.and_eq_true, decide_eq_true_eq] at h
  exact ⟨h.1.1.1.1, h.1.1.1.2, h.1.1.2, h.1.2, h.2⟩
def fLr1 (f : Vv) : Ev := fun en => (f en).bind fun x => match x.1 with
  | .int j => if rgOk 0 j = true then some (.list (rgD 0 j), true, x.2) else none
  | _ => none
def fLr2 (f g : Vv) : Ev := fun en => (f en).bind fun x => (g x.2).bind fun y => match x.1, y.1 with
  | .int i, .int j => if rgOk i j = true then some (.list (rgD i j), true, y.2) else none
  | _, _ => none
theorem fe_lr1 {f : Vv} {p1 p2 : Pos} (hc : X.calm = true) (hm1 : X.mg "list" = none) (hm2 : X.mg "range" = none) (ha : PE X a (FV X.K f)) (hg1 : Gl X "list" := by rfl) (hg2 : Gl X "range" := by rfl) (n1 : starEach [a] X.env = (false, eval a X.env) :: starEach [] X.env := by rfl)
    (n2 : starEach [.Call (.Name "range" p2) [a] [] pos] X.env = (false, eval (.Call (.Name "range" p2) [a] [] pos) X.env) :: starEach [] X.env := by rfl) : PE X (.Call (.Name "list" p1) [.Call (.Name "range" p2) [a] [] pos] [] p) (FE X.K (fLr1 f)) :=
  pe_imp (pe_listRg hc hg1 hm1 (prg_1 hg2 hm2 ha n1) n2) fun σ H Q ⟨G, en, d, b, en', S, e1, k⟩ => by
    obtain ⟨⟨x, en1⟩, p1, e2⟩ := Option.bind_eq_some_iff.mp e1
    refine ⟨G, en, x, en1, S, p1, fun v G1 H1 T r => ?_⟩
    dsimp only at e2
    split at e2
    · rename_i j
      obtain ⟨ok, e3⟩ := ite_some e2
      cases e3
      cases r
      refine ⟨_, rfl, rgOk_of ok, fun q hq => ?_⟩
      have N := New.own (o := .lst (rgV 0 j)) T.sr.sub hq
      exact k _ _ _ (T.trans (N.step T.sr)) (Fresh.res' T (Fresh.new T.sr.sub hq (.lst (reps_rg _ _))))
    · cases e2
theorem fe_lr2 {f g : Vv} {p1 p2 : Pos} (hc : X.calm = true) (hm1 : X.mg "list" = none) (hm2 : X.mg "range" = none) (ha : PE X a (FV X.K f)) (hb : PE X b (FV X.K g)) (hg1 : Gl X "list" := by rfl) (hg2 : Gl X "range" := by rfl) (n0 : starEach [a, b] X.env = (false, eval a X.env) :: starEach [b] X.env := by rfl) (n1 : starEach [b] X.env = (false, eval b X.env) :: starEach [] X.env := by rfl)
    (hp : (backTo pos (starEach [b] X.env)).any (·.1) = false := by rfl) (n2 : starEach [.Call (.Name "range" p2) [a, b] [] pos] X.env = (false, eval (.Call (.Name "range" p2) [a, b] [] pos) X.env) :: starEach [] X.env := by rfl) : PE X (.Call (.Name "list" p1) [.Call (.Name "range" p2) [a, b] [] pos] [] p) (FE X.K (fLr2 f g)) :=
  pe_imp (pe_listRg hc hg1 hm1 (prg_2 hg2 hm2 ha hb n0 n1 hp) n2) fun σ H Q ⟨G, en, d, bb, en', S, e1, k⟩ => by
    obtain ⟨⟨x, en1⟩, p1, e2⟩ := Option.bind_eq_some_iff.mp e1
    obtain ⟨⟨y, en2⟩, p2, e2⟩ := Option.bind_eq_some_iff.mp e2
    refine ⟨G, en, x, en1, S, p1, fun v G1 H1 T1 r1 => ⟨G1, en1, y, en2, T1.sr, p2, fun w G2 H2 T2 r2 => ?_⟩⟩
    dsimp only at e2
    split at e2
    · rename_i i j _
      obtain ⟨ok, e3⟩ := ite_some e2
      cases e3
      cases r1
      cases r2
      refine ⟨_, _, rfl, rfl, rgOk_of ok, fun q hq => ?_⟩
      have T := T1.trans T2
      have N := New.own (o := .lst (rgV i j)) T.sr.sub hq
      exact k _ _ _ (T.trans (N.step T.sr)) (Fresh.res' T (Fresh.new T.sr.sub hq (.lst (reps_rg _ _))))
    · cases e2
end
end Fx
/-! Fx12: own defs by name. -/
namespace Fx
open PySem PySem.Spec L2
def fuelN : Nat := 1000000
theorem _root_.L2.Room.u65 {k : Nat} {A : Around} (r : Room k A) : A.units + 65 < cLine := by have := r.un; omega
theorem _root_.L2.Room.u1 {k : Nat} {A : Around} (r : Room k A) : A.units + 1 < cLine := by have := r.un; omega
theorem _root_.L2.Room.u64 {k : Nat} {A : Around} (r : Room k A) : A.units + 64 < cLine := by have := r.un; omega
/-- an own def, its promise -/
def Ow (P : Program) (w : World) (K : PySem.W.Frag) (mg : Str → Option Value) (base : Heap) (k : Nat) (x : Str) (ps : List Str) (sp : Sp) : Prop :=
  ∃ (f : Addr) (fd : FuncData), mg x = some (.ref f) ∧ PySem.W.keepIn K (.ref f) = true ∧ Binds K fd ps [] ∧ FnOk P w K mg base CX0 k f fd ps sp
section
variable {X : Cx} {k j np : Nat} {ps : List Str} {x : Str} {p pos : Pos} {e : Expr} {es : List Expr}
theorem fe_callO {l : Lv} {F0 : List D → Option (D × Bool)} (o : Ow X.prog X.w X.K X.mg X.base j x ps (sp0 X.K np F0)) (hr : Room k X.A) (ha : PA X (e :: es) (FL X.K l)) (hjk : j ≤ k := by decide)
    (hg : Gl X x := by rfl) (hdb : (x == ("__debug__" : Str)) = false := by decide) (he : starEach (e :: es) X.env = (false, eval e X.env) :: starEach es X.env := by rfl) (hpl : (backTo pos (starEach es X.env)).any (·.1) = false := by rfl) : PE X (.Call (.Name x p) (e :: es) [] pos) (FE X.K (fCall np l F0)) :=
  let ⟨f, fd, hm, hk, hb, F⟩ := o
  fe_call F (hr.mono hjk) hm hk hb ha hg hdb he hpl
theorem fe_callO0 {F0 : List D → Option (D × Bool)} (o : Ow X.prog X.w X.K X.mg X.base j x ps (sp0 X.K np F0)) (hr : Room k X.A) (hjk : j ≤ k := by decide)
    (hg : Gl X x := by rfl) (hdb : (x == ("__debug__" : Str)) = false := by decide) : PE X (.Call (.Name x p) [] [] pos) (FE X.K (fCall np lNil F0)) :=
  let ⟨f, fd, hm, hk, hb, F⟩ := o
  fe_call0 F (hr.mono hjk) hm hk hb hg hdb
theorem fe_callWO {l : Lv} {i : Nat} {F0 : D → List D → Option (D × Bool × D)} (o : Ow X.prog X.w X.K X.mg X.base j x ps (spW X.K np F0)) (hr : Room k X.A) (hw : PE X e (tVar i)) (ha : PA X es (FL X.K l)) (hjk : j ≤ k := by decide)
    (hg : Gl X x := by rfl) (hdb : (x == ("__debug__" : Str)) = false := by decide) (he : starEach (e :: es) X.env = (false, eval e X.env) :: starEach es X.env := by rfl) (hpl : (backTo pos (starEach es X.env)).any (·.1) = false := by rfl) : PE X (.Call (.Name x p) (e :: es) [] pos) (FE X.K (fCallW np i l F0)) :=
  let ⟨f, fd, hm, hk, hb, F⟩ := o
  fe_callW F (hr.mono hjk) hm hk hb hw ha hg hdb he hpl
end
theorem fv_globS {X : Cx} {x z : Str} {pos : Pos} (h : ∃ t, X.mg x = some (.str z t)) (hg : Gl X x := by rfl) (hd : (x == ("__debug__" : Str)) = false := by decide) : PE X (.Name x pos) (FV X.K (fC (.str z))) :=
  let ⟨t, hm⟩ := h
  fv_glob (v := .str z) hm ⟨t, rfl⟩ (fun _ => .str _) hg hd
theorem fs_ornil {X : Cx} : PSs X [] (FS X.K sNx) := fs_nil
end Fx
/-! Fx13: tests that compare. -/
namespace Fx
open PySem PySem.Spec L2
section
variable {X : Cx} {K : PySem.W.Frag} {a b c e : Expr} {pos pos' : Pos}
theorem tb_of {f : Ev} {σ : St} {H : Hp} {Q : Bool → Hp → Prop} (h : FT K (tB1 f) σ H Q) : FE K f σ H fun v H1 => ∃ c, v = .bl c ∧ Q c H1 := by
  obtain ⟨G, en, c, en', S, e1, k⟩ := h
  obtain ⟨⟨d, b, en1⟩, p1, e2⟩ := Option.bind_eq_some_iff.mp e1
  cases d <;> first | (cases e2; done) | skip
  rename_i c'
  cases e2
  exact ⟨G, en, _, b, _, S, p1, fun v G' H' T r => ⟨c, res_bool (G := G) (H := H) r, k G' H' T⟩⟩
theorem ft_cmp {op : CmpOp} {r : R2} {p q : Ov} {g : D → D → Option (D × Bool)} (o : Op2 X.K r g) (ho : OpR X (compareOp op) r) (ha : PE X a (FO X.K p)) (hb : PE X b (FO X.K q)) (hm : behindInMarks op b = false) : PT X (.Compare a [op] [b] pos) (FT X.K (tB1 (f2 p q g))) :=
  pt_imp (pt_cmpR ho ha hb hm) fun _ _ _ h => t2_of o (tb_of h)
theorem ft_isN {p : Ov} {j} (ha : PE X a (FO X.K p)) : PT X (.Compare a [.Is] [.Constant .none j pos'] pos) (FT X.K (tB1 (fIs p isND))) :=
  pt_imp (pt_cmpR op_isN ha pe_non rfl) fun _ _ _ h => t2c_of (fun x d G H Q u q => ⟨rfl, by rw [use_non u]; exact q⟩) (tb_of h)
theorem ft_notN {p : Ov} {j} (ha : PE X a (FO X.K p)) : PT X (.Compare a [.IsNot] [.Constant .none j pos'] pos) (FT X.K (tB1 (fIs p fun d => !isND d))) :=
  pt_imp (pt_cmpR op_notN ha pe_non rfl) fun _ _ _ h => t2c_of (fun x d G H Q u q => ⟨rfl, by rw [use_non u]; exact q⟩) (tb_of h)
theorem ft_isB {p : Ov} {c : Bool} {j} (ha : PE X a (FO X.K p)) : PT X (.Compare a [.Is] [.Constant (.bool c) j pos'] pos) (FT X.K (tB1 (fIs p (isBD c)))) :=
  pt_imp (pt_cmpR op_isB ha pe_bl rfl) fun _ _ _ h => t2c_of (fun x d G H Q u q => ⟨rfl, use_ty u, by rw [use_bl u]; exact q⟩) (tb_of h)
theorem ft_isNotB {p : Ov} {c : Bool} {j} (ha : PE X a (FO X.K p)) : PT X (.Compare a [.IsNot] [.Constant (.bool c) j pos'] pos) (FT X.K (tB1 (fIs p fun d => !isBD c d))) :=
  pt_imp (pt_cmpR op_isNotB ha pe_bl rfl) fun _ _ _ h => t2c_of (fun x d G H Q u q => ⟨rfl, use_ty u, by rw [use_bl u]; exact q⟩) (tb_of h)
theorem chain_of {r r' : R2} {p q w : Ov} {g g' : D → D → Option (D × Bool)} (o : Op2 K r g) (o' : Op2 K r' g') {σ : St} {H : Hp} {Q : VK} (h : FE K (fChain p q g g' w) σ H Q) : tChain r r' (FO K p) (FO K q) (FO K w) σ H Q := by
  obtain ⟨G, en, z, zb, en', S, e1, k⟩ := h
  obtain ⟨⟨x, en1⟩, p1, e2⟩ := Option.bind_eq_some_iff.mp e1
  obtain ⟨⟨y, en2⟩, p2, e3⟩ := Option.bind_eq_some_iff.mp e2
  obtain ⟨d, p3, e4⟩ := Option.bind_eq_some_iff.mp e3
  obtain ⟨e, p4, e5⟩ := Option.bind_eq_some_iff.mp e4
  obtain ⟨⟨z1, b1⟩, p5, e6⟩ := Option.bind_eq_some_iff.mp e5
  refine ⟨G, en, x, en1, S, p1, fun v G1 H1 T1 r1 => ⟨G1, en1, y, en2, T1.sr, p2, fun u G2 H2 T2 r2 => ?_⟩⟩
  cases b1 with
  | true => cases z1 <;> cases e6
  | false =>
    cases z1 <;> first | (cases e6; done) | skip
    rename_i c1
    have T12 := T1.trans T2
    refine o v u d e _ _ G2 H2 _ T2.sr.sub ((r1.step T2).use T2.sr p3) (r2.use T2.sr p4) p5 fun v3 G3 H3 N F => ?_
    have T3 := N.step T2.sr
    refine ⟨c1, res_bool (G := G) (H := H2) F, ?_⟩
    cases c1 with
    | false =>
      cases e6
      exact iteF (k _ G3 H3 (T12.trans T3) (Rep.bl false))
    | true =>
      obtain ⟨⟨u1, en4⟩, q1, f2⟩ := Option.bind_eq_some_iff.mp (show ((w en2).bind fun u => (y.late u.2).bind fun e => (u.1.late u.2).bind fun e' => (g' e e').map fun z => (z.1, z.2, u.2)) = some (z, zb, en') from e6)
      obtain ⟨e8, q2, f3⟩ := Option.bind_eq_some_iff.mp f2
      obtain ⟨e9, q3, f4⟩ := Option.bind_eq_some_iff.mp f3
      obtain ⟨⟨z', b'⟩, p7, e10⟩ := Option.map_eq_some_iff.mp f4
      cases e10
      refine iteT ⟨G3, en2, u1, en4, T3.sr, q1, fun v4 G4 H4 T4 r4 => ?_⟩
      have T := (T12.trans T3).trans T4
      exact o' u v4 e8 e9 _ _ G4 H4 Q T4.sr.sub (((r2.step T3).step T4).use T4.sr q2) (r4.use T4.sr q3) p7 fun v G' H' N F => k v G' H' (T.trans (N.step T4.sr)) (F.res' T)
theorem ft_chain {op op' : CmpOp} {r r' : R2} {p q w : Ov} {g g' : D → D → Option (D × Bool)} (o : Op2 X.K r g) (o' : Op2 X.K r' g') (ho : OpR X (compareOp op) r) (ho' : OpR X (compareOp op') r') (ha : PE X a (FO X.K p)) (hb : PE X b (FO X.K q)) (hc : PE X c (FO X.K w))
    (hp : PT X (.Compare a [op, op'] [b, c] pos) (tTest (tChain r r' (FO X.K p) (FO X.K q) (FO X.K w)))) : PT X (.Compare a [op, op'] [b, c] pos) (FT X.K (tB1 (fChain p q g g' w))) :=
  pt_imp hp fun _ _ _ h => chain_of o o' (tb_of h)
def tIfF (c f g : Tv) : Tv := fun en => (c en).bind fun x => if x.1 = true then f x.2 else g x.2
theorem ft_if {t f g : Tv} (hc : PT X c (FT X.K t)) (ha : PT X a (FT X.K f)) (hb : PT X b (FT X.K g)) : PT X (.IfExp c a b pos) (FT X.K (tIfF t f g)) := by
  refine ⟨fun pins s σ H Q I ⟨G, en, d, en', S, e1, k⟩ => ?_⟩
  obtain ⟨⟨z, en1⟩, p1, e2⟩ := Option.bind_eq_some_iff.mp e1
  refine PyProof.Rows.isTrue_IfExp (thn (hc.run pins s σ H (fun z' H1 => z' = z ∧ ∃ G1, Step X.K en en1 σ G H G1 H1) I ⟨G, en, z, en1, S, p1, fun G1 H1 T => ⟨rfl, G1, T⟩⟩) fun d s1 ⟨H1, I1, ez, G1, T⟩ => ?_)
  subst ez
  cases d with
  | true => exact ha.run pins s1 σ H1 _ I1 ⟨G1, en1, _, en', T.sr, e2, fun G2 H2 T2 => k G2 H2 (T.trans T2)⟩
  | false => exact hb.run pins s1 σ H1 _ I1 ⟨G1, en1, _, en', T.sr, e2, fun G2 H2 T2 => k G2 H2 (T.trans T2)⟩
def blkB (N : List Str) (sc scope : Scope) (own : List (Str × Nat)) : Bool :=
  decide (scope.kind = .function) && (scope.names.all fun y => decide (scope.names.lookup y.1 = some y.2)) && (own.all fun p => decide (N[p.2]? = some p.1)) &&
  (scope.names.all fun y => !decide (y.2 = .free) || (decide (sc.names.lookup y.1 = some .cell) || decide (sc.names.lookup y.1 = some .free))) &&
  scope.names.all fun y => !(decide (y.2 = .local) || decide (y.2 = .cell)) || (decide (y.1 ∈ own.map (·.1)) || !decide (y.1 ∈ N))
theorem blkOf {N : List Str} {sc scope : Scope} {own : List (Str × Nat)} (h : blkB N sc scope own = true) : BlkOk N sc scope own := by
  unfold blkB at h
  simp only [Bool.and_eq_true, List.all_eq_true, decide_eq_true_eq, Bool.or_eq_true, Bool.not_eq_true', decide_eq_false_iff_not] at h
  obtain ⟨⟨⟨⟨h1, h2⟩, h3⟩, h4⟩, h5⟩ := h
  refine ⟨h1, h2, h3, fun y hy e => (h4 y hy).resolve_left fun n => n e, fun y hy e => (h5 y hy).resolve_left fun n => ?_⟩
  rw [Bool.or_eq_false_iff, decide_eq_false_iff_not, decide_eq_false_iff_not] at n
  exact e.elim n.1 n.2
end
end Fx
namespace Fx
open PySem PySem.Spec L2
theorem reps_ints {K : PySem.W.Frag} {G : Hp} : ∀ ns : List Int, Reps K G (ns.map V.int) (ns.map PyData.int)
  | [] => .nil
  | i :: r => .cons (.int i) (reps_ints r)
end Fx
/-! Fx15: dict.get, list.extend. -/
namespace Fx
open PySem PySem.Spec L2
section
variable {X : Cx} {K : PySem.W.Frag}
def rDGet : V → List V → Hp → VK → Prop := fun x xs H Q => ∃ (a : Addr) (y : V) (o : Option V), x = .ref a ∧ DGet H a y o ∧ ((xs = [y] ∧ Q (o.getD .non) H) ∨ ∃ d, xs = [y, d] ∧ Q (o.getD d) H)
theorem mt_dget (hu : X.A.units + 1 < cLine) : MtR X "dict.get" rDGet := by
  intro pins s σ H x xs v us Q I rx rxs ⟨a, y, o, e, g, h⟩
  subst e
  cases rx
  rcases h with ⟨e, q⟩ | ⟨d, e, q⟩
  · subst e
    obtain ⟨u, rfl, ry⟩ := Vals.one rxs
    exact d_get1 hu I g ry fun w' s' I' r' => ⟨_, H, I', r', q⟩
  · subst e
    obtain ⟨u, u2, rfl, ry, rd⟩ := rxs.two
    exact d_get2 hu I g ry rd fun w' s' I' r' => ⟨_, H, I', r', q⟩
def plainD : D → Bool
  | .list _ => false
  | .dict _ => false
  | _ => true
theorem use_plain {G H : Hp} {v : V} {d : D} (u : Use K G H v d) (h : plainD d = true) : Rep K G v d := by
  rcases u with u | ⟨a, o, e, h1, r⟩
  · exact u
  · cases r <;> cases h
def dGetM : D → List D → Option (D × Bool)
  | .dict es, [k] => (keyOf k).map fun k => ((Fx.dictGet es k).getD .none, false)
  | .dict es, [k, d] => (keyOf k).bind fun k => match Fx.dictGet es k with
    | some z => some (z, false)
    | none => if plainD d = true then some (d, false) else none
  | _, _ => none
theorem or_dget : OpMR K rDGet dGetM := fun x d xs ds z b G H Q s u us hg k => by
  unfold dGetM at hg
  split at hg
  · obtain ⟨kk, h1, h2⟩ := Option.map_eq_some_iff.mp hg
    cases h2
    obtain ⟨a, kvs, rfl, h, r⟩ := u.dict s
    obtain ⟨y, rfl, uy⟩ := us.one
    have e := keyV uy h1
    subst e
    refine ⟨a, _, _, rfl, dget_of h, .inl ⟨rfl, ?_⟩⟩
    rcases r.get kk with ⟨w1, w2⟩ | ⟨v, d, w1, w2, w3⟩
    · rw [w1]
      exact k _ G H (New.refl s) (Fresh.sh (by rw [w2]; exact .non))
    · rw [w1]
      exact k _ G H (New.refl s) (Fresh.sh (by rw [w2]; exact w3))
  · obtain ⟨kk, h1, h2⟩ := Option.bind_eq_some_iff.mp hg
    obtain ⟨a, kvs, rfl, h, r⟩ := u.dict s
    obtain ⟨y, y2, rfl, uy, uy2⟩ := us.two
    have e := keyV uy h1
    subst e
    refine ⟨a, _, _, rfl, dget_of h, .inr ⟨y2, rfl, ?_⟩⟩
    rcases r.get kk with ⟨w1, w2⟩ | ⟨v, d, w1, w2, w3⟩
    · rw [w2] at h2
      dsimp only at h2
      obtain ⟨hp, h3⟩ := ite_some h2
      cases h3
      rw [w1]
      exact k _ G H (New.refl s) (Fresh.sh (use_plain uy2 hp))
    · rw [w2] at h2
      cases h2
      rw [w1]
      exact k _ G H (New.refl s) (Fresh.sh w3)
  · cases hg
/-! ### xs.extend(ys), of a list or a tuple -/
def rExtG (K : PySem.W.Frag) : V → List V → Hp → VK → Prop := fun x vs H Q => ∃ l b xs zs, x = .ref l ∧ vs = [.ref b] ∧ H l = some (.lst xs) ∧ (SqL K H b zs ∨ SqT K H b zs) ∧ xs.length + zs.length ≤ sizeLine ∧ Q .non (upd H l (.lst (xs ++ zs)))
theorem ext_seq {prog : Program} {w : World} {A : Around} {E : Value → Shared → Prop} {s : Shared} {S it : Addr} {T : String} {o : Obj} {xs items : Array Value} {n c : Nat} {P : PySem.Fin → Shared → Prop} (hT : T = "list" ∨ T = "tuple")
    (hS : s.heap.get? S = some { cls := .type "list", data := .seq xs c }) (ho : s.heap.get? it = some o) (hc : o.cls = .type T) (hd : o.data = .seq items n) (hsz : xs.size + items.size ≤ sizeLine)
    (hR : P (.done (.ret .none)) { s with heap := s.heap.update S (Obj.mapSeq (· ++ items)) }) : wpAny (model prog w) A (Builtin.List.listExtendWith (.ref S) (.ref it) .none) P E s := by
  unfold Builtin.List.listExtendWith
  refine wpAny_bind (wpAny_typeOf ⟨o, ho, hc⟩ ?_)
  have h1 : (Builtin.List.listSameRef (.ref S) (.ref it) || Value.type T == Value.type "list" || Value.type T == Value.type "tuple") = true := by
    rcases hT with rfl | rfl <;> simp
  simp only [h1, if_true]
  refine wpAny_bind ?_
  unfold Builtin.List.listItems
  refine wpAny_bind (wpAny_seqItems ho hd (wpAny_pure ?_))
  refine wpAny_bind ?_
  refine wpAny_bind (wpAny_seqItems hS rfl (wpAny_pure ?_))
  have hlong : ¬ (!xs.isEmpty && Builtin.List.listTooLong (xs.size + items.size)) = true := by
    rw [notLongL hsz, Bool.and_false]
    exact Bool.false_ne_true
  rw [if_neg hlong]
  show wpAny _ A (updateSeq S (· ++ items) >>= fun _ => ret .none) _ _ s
  refine wpAny_bind (wpAny_updateSeq hS rfl ?_)
  exact wpAny_pure hR
theorem mt_ext : MtR X "list.extend" (rExtG X.K) := by
  intro pins s σ H x vs v us Q I rx rv ⟨l, b, xs, zs, e1, e2, hH, hB, hz, q⟩
  subst e1
  subst e2
  cases rx
  obtain ⟨u, rfl, ru⟩ := Vals.one rv
  cases ru
  obtain ⟨z, its, n, r, hl, e⟩ := I.lstM hH
  have go : ∀ {T : String} {o : Obj} {its2 : List Value} {n2 : Nat}, (T = "list" ∨ T = "tuple") → Vals zs its2 → s.heap.get? b = some o → o.cls = .type T → o.data = .seq its2.toArray n2 → wpAny (model X.prog X.w) X.A (call (.builtin "list.extend") [.ref l, .ref b]) (EP X pins σ Q) X.xe s := by
    intro T o its2 n2 hT r2 ho hc hd
    have hl2 := r2.length
    refine PySem.wpAny_call_entry PySem.F.slot_list_extend ⟨_, e, rfl⟩ PySem.F.entry_list_extend ?_ (PySem.F.args_list_extend_2 _ _)
    refine ext_seq hT e ho hc hd (by rw [List.size_toArray, List.size_toArray]; omega) ⟨.none, rfl, .non, _, I.lset (its' := its ++ its2) hH e (by simp) (r.append r2) ?_, rfl, q⟩
    rw [List.length_append]
    omega
  rcases hB with hB | hB
  · obtain ⟨its2, r2, ⟨o, n2, ho, hc, hd, hh⟩, _⟩ := I.list hB
    exact go (.inl rfl) r2 ho hc hh
  · obtain ⟨its2, r2, ⟨o, ho, hc, n2, hd⟩, _⟩ := I.tuple hB
    exact go (.inr rfl) r2 ho hc hd
def mExtG : D → List D → Option (D × Bool × D)
  | .list ds, [.list es] => if ds.length + es.length ≤ sizeLine then some (.none, false, .list (ds ++ es)) else none
  | .list ds, [.tuple es] => if ds.length + es.length ≤ sizeLine then some (.none, false, .list (ds ++ es)) else none
  | _, _ => none
theorem om_ext : OpM K (rExtG K) mExtG := fun l o d xs ds z b d' G H Q s g h r rs e k => by
  unfold mExtG at e
  split at e
  · obtain ⟨hl, e⟩ := ite_some e
    cases e
    cases r with
    | lst q =>
      cases rs with
      | cons r1 r2 =>
        cases r2
        obtain ⟨a, ys, rfl, ha, ry⟩ := Use.list s (.inl r1)
        exact ⟨l, a, _, _, rfl, rfl, h, .inl ha, by rw [q.length, ry.length]; exact hl, opM_upd s g h (.lst (q.append ry)) .non k⟩
  · obtain ⟨hl, e⟩ := ite_some e
    cases e
    cases r with
    | lst q =>
      cases rs with
      | cons r1 r2 =>
        cases r2
        obtain ⟨a, ys, rfl, ha, ry⟩ := Use.tuple s (.inl r1)
        exact ⟨l, a, _, _, rfl, rfl, h, .inr ha, by rw [q.length, ry.length]; exact hl, opM_upd s g h (.lst (q.append ry)) .non k⟩
  · cases e
end
end Fx
/-! Fx16: tuple(range(..)). -/
namespace Fx
open PySem PySem.Spec L2
section
variable {X : Cx} {K : PySem.W.Frag} {a b e : Expr} {pos p : Pos}
def tTupRgZ (te : St → Hp → (Int → Int → Hp → Prop) → Prop) : TE := fun σ H Q => te σ H fun a b H1 => RgOk a b ∧ ∀ q o, H1 q = none → o.dict = none → Q (.ref q) (upd H1 q (.frz o (.tup (rgV a b))))
open PyProof.Rows in
theorem pe_tupRgZ {te : L2.St → Hp → (Int → Int → Hp → Prop) → Prop} (hc : X.calm = true) (hg : Gl X "tuple") (hm : X.mg "tuple" = none) (he : PRg X e te) (na : starEach [e] X.env = (false, eval e X.env) :: starEach [] X.env := by rfl) : PE X (.Call (.Name "tuple" p) [e] [] pos) (tTupRgZ te) := by
  refine ⟨fun pins s σ H Q I h => ?_⟩
  refine Call_ (ld_blt I hg hm boot_tuple (PyProof.Rows.callWith_type1 (args_cons (thn (he pins s σ H _ I h) fun x s1 ⟨r, a, b, t, u, v, H1, ex, hr, I1, ok, q⟩ => args_nil ?_) na) na))
  subst ex
  obtain ⟨b1, b2, b3, b4, b5⟩ := ok
  refine call_tuple_range (n := (b - a).toNat) (I1.ok.hd hc) hr (small_one b1 b2 b3 b4) (rangeSize_nat a b) b5 fun h' tk acc hk hi => ?_
  have I2 : Inv X pins σ H1 { s1 with heap := h', toks := tk } := I1.kept hk
  refine ⟨.ref h'.objs.size, upd H1 h'.objs.size (.frz { cls := .type "tuple", data := .seq acc } (.tup (rgV a b))), I2.laid (t' := tk) (fun c o e => Heap.get?_push_of_some _ e) (Nat.le_refl _) ⟨Heap.get?_push_size _ rfl, ?_, acc.toList, vals_rg hi, ?_⟩, rfl, q _ _ (I2.hok.fresh (Nat.le_refl _)) rfl⟩
  · rw [rgV_length, sizeLine_eq]; omega
  · rw [Array.toArray_toList]; exact PyProof.Rows.IsTup.new _ _
def fTr1 (f : Vv) : Vv := fun en => (f en).bind fun x => match x.1 with
  | .int j => if rgOk 0 j = true then some (.tuple (rgD 0 j), x.2) else none
  | _ => none
theorem fv_tr1 {f : Vv} {p1 p2 : Pos} (hc : X.calm = true) (hm1 : X.mg "tuple" = none) (hm2 : X.mg "range" = none) (ha : PE X a (FV X.K f)) (hg1 : Gl X "tuple" := by rfl) (hg2 : Gl X "range" := by rfl) (n1 : starEach [a] X.env = (false, eval a X.env) :: starEach [] X.env := by rfl)
    (n2 : starEach [.Call (.Name "range" p2) [a] [] pos] X.env = (false, eval (.Call (.Name "range" p2) [a] [] pos) X.env) :: starEach [] X.env := by rfl) : PE X (.Call (.Name "tuple" p1) [.Call (.Name "range" p2) [a] [] pos] [] p) (FV X.K (fTr1 f)) :=
  pe_imp (pe_tupRgZ hc hg1 hm1 (prg_1 hg2 hm2 ha n1) n2) fun σ H Q ⟨G, en, d, en', S, e1, k⟩ => by
    obtain ⟨⟨x, en1⟩, p1, e2⟩ := Option.bind_eq_some_iff.mp e1
    refine ⟨G, en, x, en1, S, p1, fun v G1 H1 T r => ?_⟩
    dsimp only at e2
    split at e2
    · rename_i j
      obtain ⟨ok, e3⟩ := ite_some e2
      cases e3
      cases r
      refine ⟨_, rfl, rgOk_of ok, fun q o hq ho => ?_⟩
      have N := New.shd (o := .frz o (.tup (rgV 0 j))) T.sr.sub hq
      exact k _ _ _ (T.trans (N.step T.sr)) (.tup (.inl ⟨o, upd_same, ho⟩) (reps_rg 0 j))
    · cases e2
end
end Fx
/-! Fx17: min, max of a list of data. -/
namespace Fx
open PySem PySem.Spec L2
theorem vals_back_at : ∀ {ys : List V} {us : List Value} {i : Nat} {v : Value}, Vals ys us → us[i]? = some v → ∃ x, ys[i]? = some x ∧ RelV x v
  | _, _, 0, _, .cons r _, h => by cases h; exact ⟨_, rfl, r⟩
  | _, _, i + 1, _, .cons _ t, h => vals_back_at (i := i) t h
theorem reads_at {h : Heap} : ∀ {us : List Value} {ds : List D} {as : List Addr} {i : Nat} {v : Value}, ReadsAll h us ds as → us[i]? = some v → ∃ d bs, ds[i]? = some d ∧ Reads h v d bs
  | _, _, _, 0, _, .cons r _, e => by cases e; exact ⟨_, _, rfl, r⟩
  | _, _, _, i + 1, _, .cons _ t, e => reads_at (i := i) t e
def rPickD (K : PySem.W.Frag) (A : Around) (pick : D → List D → D) : List V → Hp → VK → Prop := fun vs H Q => ∃ (a : Addr) (ys : List V) (d : D) (ds : List D), vs = [.ref a] ∧ SqL K H a ys ∧ DpAll K H ys (d :: ds) ∧ PySem.W.AlikeAll (d :: ds) ∧ A.units + 1 + PyData.depthAll (d :: ds) < cLine ∧
  ∀ (i : Nat) (x : V), ys[i]? = some x → (d :: ds)[i]? = some (pick d ds) → Q x H
section
variable {X : Cx}
theorem cr_minD (hc : X.calm = true) : CallR X (.builtin "min") (rPickD X.K X.A PySem.W.minD) := by
  intro pins s σ H vs us Q I r ⟨a, ys, d, ds, e, hs, dp, al, hu, q⟩
  subst e
  obtain ⟨u, rfl, rx⟩ := Vals.one r
  cases rx
  obtain ⟨its, rv, pl, hz⟩ := I.list hs
  obtain ⟨as, ra⟩ := Dp.readsAll I (d :: ds) ys its dp rv
  refine PySem.W.min_list_data (I.ok.hd hc) pl.isList (by simpa using ra) al hu fun i v h' tk bs hv rd hk => ?_
  obtain ⟨x, e1, e2⟩ := vals_back_at rv (by simpa using hv)
  obtain ⟨z, cs, e3, e4⟩ := reads_at ra (by simpa using hv)
  have e5 := (PyProof.Rows.Reads.keeps hk e4).unique _ _ rd
  exact ⟨x, H, I.kept hk, e2, q i x e1 (by rw [e3, e5.1])⟩
theorem cr_maxD (hc : X.calm = true) : CallR X (.builtin "max") (rPickD X.K X.A PySem.W.maxD) := by
  intro pins s σ H vs us Q I r ⟨a, ys, d, ds, e, hs, dp, al, hu, q⟩
  subst e
  obtain ⟨u, rfl, rx⟩ := Vals.one r
  cases rx
  obtain ⟨its, rv, pl, hz⟩ := I.list hs
  obtain ⟨as, ra⟩ := Dp.readsAll I (d :: ds) ys its dp rv
  refine PySem.W.max_list_data (I.ok.hd hc) pl.isList (by simpa using ra) al hu fun i v h' tk bs hv rd hk => ?_
  obtain ⟨x, e1, e2⟩ := vals_back_at rv (by simpa using hv)
  obtain ⟨z, cs, e3, e4⟩ := reads_at ra (by simpa using hv)
  have e5 := (PyProof.Rows.Reads.keeps hk e4).unique _ _ rd
  exact ⟨x, H, I.kept hk, e2, q i x e1 (by rw [e3, e5.1])⟩
theorem depth_all : ∀ {ds : List D}, (∀ d ∈ ds, d.depth < 40) → PyData.depthAll ds < 41
  | [], _ => by show 0 < 41; omega
  | d :: ds, h => by
    have h1 := h d (List.mem_cons_self ..)
    have h2 := depth_all fun x hx => h x (List.mem_cons_of_mem _ hx)
    show max _ _ < 41
    omega
def pickOk (ds : List D) : Bool := (ds.all fun d => ds.all fun e => PySem.W.alike d e) && (ds.all fun d => !isND d) && layOk ds && ds.all fun d => decide (d.depth < 40)
def dPick (pick : D → List D → D) : List D → Option (D × Bool)
  | [.list (d :: ds)] => if pickOk (d :: ds) = true then some (pick d ds, false) else none
  | _ => none
theorem on_pick {K : PySem.W.Frag} {A : Around} (hu : A.units + 64 < cLine) (pick : D → List D → D) : OpN K (rPickD K A pick) (dPick pick) := fun vs ds z b G H Q s u hg k => by
  unfold dPick at hg
  split at hg
  · rename_i d ds
    obtain ⟨ok, h2⟩ := ite_some hg
    cases h2
    unfold pickOk at ok
    rw [Bool.and_eq_true, Bool.and_eq_true, Bool.and_eq_true] at ok
    obtain ⟨⟨⟨o1, o2⟩, o3⟩, o4⟩ := ok
    obtain ⟨v, rfl, u0⟩ := u.one
    obtain ⟨a, xs, rfl, h, r⟩ := u0.list s
    refine ⟨a, xs, d, ds, rfl, h, reps_dp s r fun x hx => List.all_eq_true.mp o3 x hx, ⟨fun x hx y hy => List.all_eq_true.mp (List.all_eq_true.mp o1 x hx) y hy, fun x hx e => ?_⟩, ?_, fun i x e1 e2 => ?_⟩
    · have := List.all_eq_true.mp o2 x hx
      rw [e] at this
      cases this
    · have := depth_all fun x hx => of_decide_eq_true (List.all_eq_true.mp o4 x hx)
      omega
    · obtain ⟨w, w1, w2⟩ := r.get e1
      rw [e2] at w1
      cases w1
      exact k _ G H (New.refl s) (Fresh.sh w2)
  · cases hg
end
end Fx
/-! Fx18: comprehensions with two for. -/
namespace Fx
open PySem PySem.Spec L2
def lcO (vs vs1 : List Nat) (s : Gv) (t : Tv) (it1 : Lv) (s1 : Gv) (t1 : Tv) (f : Vv) : List D → En → Option (List D × En)
  | [], en => some ([], en)
  | d :: ds, en => (s d (wipeE en vs)).bind fun e1 => (t e1).bind fun x => if x.1 = true then (it1 x.2).bind fun z => (lcL vs1 s1 t1 f z.1 (wipeE z.2 vs1)).bind fun y => (lcO vs vs1 s t it1 s1 t1 f ds (wipeE y.2 vs)).map fun r => (y.1 ++ r.1, r.2) else lcO vs vs1 s t it1 s1 t1 f ds (wipeE x.2 vs)
def fLc2 (vs vs1 : List Nat) (it : Lv) (s : Gv) (t : Tv) (it1 : Lv) (s1 : Gv) (t1 : Tv) (f : Vv) : Ev := fun en => (it en).bind fun x => (lcO vs vs1 s t it1 s1 t1 f x.1 (wipeE x.2 vs)).bind fun y => if y.1.length ≤ sizeLine then some (.list y.1, true, backE x.2 y.2 vs) else none
section
variable {X : Cx} {e : Expr} {pos : Pos}
theorem wipe_in {σ : St} {vs us : List Nat} (h : ∀ i ∈ us, i ∈ vs) : wipe (wipe σ us) vs = wipe σ vs := by
  apply List.ext_getElem?
  intro i
  by_cases hi : i ∈ vs
  · by_cases hn : i < σ.length
    · rw [wipe_on hi hn, wipe_on hi (by rw [wipe_length]; exact hn)]
    · rw [List.getElem?_eq_none (by rw [wipe_length, wipe_length]; omega), List.getElem?_eq_none (by rw [wipe_length]; omega)]
  · rw [wipe_off hi, wipe_off hi, wipe_off fun z => hi (h i z)]
theorem lc2_of {R R1 : Given} {K : PySem.W.Frag} {vs vs1 ts ts1 : List Nat} {it it1 : Lv} {s s1 : Gv} {t t1 : Tv} {f : Vv} (hts : ∀ i ∈ ts, i ∈ vs) (hts1 : ∀ i ∈ ts1, i ∈ vs1) (hv : ∀ i ∈ vs1, i ∈ vs) {σ : St} {H : Hp} {Q : VK} (h : FE K (fLc2 vs vs1 it s t it1 s1 t1 f) σ H Q) : tLc2 (FI R K it) (FG R K ts s) (FT K t) (FI R1 K it1) (FG R1 K ts1 s1) (FT K t1) (FV K f) vs vs1 σ H Q := by
  obtain ⟨G, en, z, zb, en', S, e1, k⟩ := h
  obtain ⟨⟨ds, en1⟩, p1, e2⟩ := Option.bind_eq_some_iff.mp e1
  obtain ⟨⟨rs, en2⟩, p2, e3⟩ := Option.bind_eq_some_iff.mp e2
  obtain ⟨hz, e4⟩ := ite_some e3
  cases e4
  refine ⟨G, en, ds, en1, S, p1, fun J G1 H1 T1 hJ D hD => ?_⟩
  have S1 := T1.sr
  have nobD : ∀ {e : En} {σ' : St}, (∀ b, OwnA e σ' b → OwnA (wipeE en1 vs) (wipe σ vs) b) → ¬ OwnA e σ' D := fun {e σ'} hh q => by
    obtain ⟨o, ho, _⟩ := S1.there (own_wipe (hh D q))
    rw [hD] at ho
    cases ho
  -- names of a block are forgotten
  have fin : ∀ {us : List Nat} {σ4 τ : St} {e6 : En} {G6 H6 : Hp}, (∀ i ∈ us, i ∈ vs) → wipe σ4 us = τ → StepG K (wipeE en1 vs) (wipe σ vs) G1 H1 e6 σ4 G6 H6 → StepG K (wipeE en1 vs) (wipe σ vs) G1 H1 (wipeE e6 us) τ G6 H6 := fun {us σ4 τ e6 G6 H6} hu ww T => by
    have W := T.sr.wipe (vs := us)
    rw [ww] at W
    refine ⟨T.ext, W, fun b q => ?_, fun i d q => ?_⟩
    · rw [← ww] at q
      exact T.own b (own_wipe q)
    · obtain ⟨⟨d', e'⟩, s'⟩ := T.lent i d q
      have ni : i ∉ us := fun z => (wipeE_at q).2 (hu i z)
      exact ⟨⟨d', by rw [wipeE_off ni]; exact e'⟩, by rw [← ww, wipe_off ni]; exact s'⟩
  refine ⟨fun i m H' => ∃ G' e' accV acc rest, StepG K (wipeE en1 vs) (wipe σ vs) G1 H1 e' (wipe σ vs) G' H' ∧ wipeE e' vs = e' ∧ G' D = none ∧ H' D = some (.lst accV) ∧ Reps K G' accV acc ∧ m = ds.length - i ∧ lcO vs vs1 s t it1 s1 t1 f (ds.drop i) e' = some (rest, en2) ∧ rs = acc ++ rest, ⟨ds.length, G1, _, [], [], rs, ?_, wipeE_wipeE, S1.sub.free hD, upd_same, .nil, rfl, p2, rfl⟩, ?_⟩
  · have N := New.own (o := .lst []) S1.sub hD
    exact step_g (N.step S1.wipe)
  rintro i m H2 ⟨G2, e2, accV, acc, rest, T2, w2, gD, hD2, ra, rfl, pl, er⟩
  have nD2 := nobD T2.own
  have gg : Same G1 G2 := T2.ext.g
  obtain ⟨j1, j2⟩ := hJ i G2 H2 gg T2.sr.sub
  by_cases hi : i < ds.length
  · rw [List.drop_eq_getElem_cons hi] at pl
    obtain ⟨e3, q3, pl⟩ := Option.bind_eq_some_iff.mp pl
    obtain ⟨⟨c, e4⟩, q4, pl⟩ := Option.bind_eq_some_iff.mp pl
    rw [w2] at q3
    obtain ⟨j3, j4⟩ := j2 ds[i] (List.getElem?_eq_getElem hi)
    refine .inr ⟨j3, fun H' => ∃ G' e' accV acc rest, StepG K (wipeE en1 vs) (wipe σ vs) G1 H1 e' (wipe σ vs) G' H' ∧ wipeE e' vs = e' ∧ G' D = none ∧ H' D = some (.lst accV) ∧ Reps K G' accV acc ∧ lcO vs vs1 s t it1 s1 t1 f (ds.drop (i + 1)) e' = some (rest, en2) ∧ rs = acc ++ rest,
      fun H' ⟨G', e', aV, a, r, h1, h2, h3, h4, h5, h6, h7⟩ => ⟨ds.length - (i + 1), by omega, G', e', aV, a, r, h1, h2, h3, h4, h5, rfl, h6, h7⟩, fun x H3 hy => ?_⟩
    obtain ⟨G3, N3, r3⟩ := j4 x H3 hy
    have T3 := T2.trans (step_g (N3.step T2.sr))
    have gD3 : G3 D = none := N3.ext.n D _ hD2 (fun z => z) gD
    have hD3 : H3 D = some (.lst accV) := N3.ext.h D _ hD2 fun z => z
    refine ⟨G3, e2, _, e3, T3.sr, r3, q3, fun σ4 G4 H4 T4 k4 => ?_⟩
    have hl4 : σ4.length = σ.length := k4.1.trans (wipe_length σ vs)
    have ww : wipe σ4 vs = wipe σ vs := wipe_wipe (K := K) hts hl4 k4.2
    refine ⟨ww, ?_⟩
    have T34 := T3.trans T4
    have nD4 := nobD T34.own
    have nD3 := nobD T3.own
    have gD4 : G4 D = none := T4.ext.n D _ hD3 nD3 gD3
    have hD4 : H4 D = some (.lst accV) := T4.ext.h D _ hD3 nD3
    refine ⟨G4, e3, c, e4, T4.sr, q4, fun G5 H5 T5 => ?_⟩
    have T35 := T34.trans (step_g T5)
    have nD5 := nobD T35.own
    have gD5 : G5 D = none := T5.ext.n D _ hD4 nD4 gD4
    have hD5 : H5 D = some (.lst accV) := T5.ext.h D _ hD4 nD4
    have ra5 := ra.mono ((N3.ext.g.trans T4.ext.g).trans T5.ext.g)
    have vv : ∀ i ∈ vs, i ∈ vs := fun _ z => z
    cases c with
    | false =>
      refine iteF ⟨G5, wipeE e4 vs, accV, acc, rest, fin vv ww T35, wipeE_wipeE, gD5, hD5, ra5, ?_, er⟩
      exact pl
    | true =>
      obtain ⟨⟨ds1, e6⟩, q6, pl⟩ := Option.bind_eq_some_iff.mp (show ((it1 e4).bind fun z => (lcL vs1 s1 t1 f z.1 (wipeE z.2 vs1)).bind fun y => (lcO vs vs1 s t it1 s1 t1 f (ds.drop (i + 1)) (wipeE y.2 vs)).map fun r => (y.1 ++ r.1, r.2)) = some (rest, en2) from pl)
      obtain ⟨⟨ys, e7⟩, q7, pl⟩ := Option.bind_eq_some_iff.mp pl
      obtain ⟨⟨rest', en3⟩, q8, pl⟩ := Option.map_eq_some_iff.mp pl
      cases pl
      refine iteT ⟨G5, e4, ds1, e6, T5.sr, q6, fun J1 G6 H6 T6 hJ1 => ?_⟩
      have T36 := T35.trans (step_g T6)
      have gD6 : G6 D = none := T6.ext.n D _ hD5 nD5 gD5
      have hD6 : H6 D = some (.lst accV) := T6.ext.h D _ hD5 nD5
      have ra6 := ra5.mono T6.ext.g
      -- the inner walk
      refine ⟨fun j m H' => ∃ G' e' aV a r, StepG K (wipeE en1 vs) (wipe σ vs) G1 H1 e' (wipe σ4 vs1) G' H' ∧ wipeE e' vs1 = e' ∧ Same G6 G' ∧ G' D = none ∧ H' D = some (.lst aV) ∧ Reps K G' aV a ∧ m = ds1.length - j ∧ lcL vs1 s1 t1 f (ds1.drop j) e' = some (r, e7) ∧ acc ++ ys = a ++ r,
        ⟨ds1.length, G6, _, accV, acc, ys, fin hv rfl T36, wipeE_wipeE, Same.refl _, gD6, hD6, ra6, rfl, q7, rfl⟩, ?_⟩
      rintro j m1 I2 ⟨L2, g2, bV, b, r2, U2, x2, gs, kD, kD2, rb, rfl, ql, fr⟩
      have mD2 := nobD U2.own
      obtain ⟨l1, l2⟩ := hJ1 j L2 I2 gs U2.sr.sub
      by_cases hj : j < ds1.length
      · rw [List.drop_eq_getElem_cons hj] at ql
        obtain ⟨g3, r3', ql⟩ := Option.bind_eq_some_iff.mp ql
        obtain ⟨⟨c2, g4⟩, r4, ql⟩ := Option.bind_eq_some_iff.mp ql
        rw [x2] at r3'
        obtain ⟨l3, l4⟩ := l2 ds1[j] (List.getElem?_eq_getElem hj)
        refine .inr ⟨l3, fun H' => ∃ G' e' aV a r, StepG K (wipeE en1 vs) (wipe σ vs) G1 H1 e' (wipe σ4 vs1) G' H' ∧ wipeE e' vs1 = e' ∧ Same G6 G' ∧ G' D = none ∧ H' D = some (.lst aV) ∧ Reps K G' aV a ∧ lcL vs1 s1 t1 f (ds1.drop (j + 1)) e' = some (r, e7) ∧ acc ++ ys = a ++ r,
          fun H' ⟨G', e', aV, a, r, h1, h2, h3, h4, h5, h6, h7, h8⟩ => ⟨ds1.length - (j + 1), by omega, G', e', aV, a, r, h1, h2, h3, h4, h5, h6, rfl, h7, h8⟩, fun y I3 hy1 => ?_⟩
        obtain ⟨L3, N4, r5⟩ := l4 y I3 hy1
        have U3 := U2.trans (step_g (N4.step U2.sr))
        have kD3 : L3 D = none := N4.ext.n D _ kD2 (fun z => z) kD
        have hkD3 : I3 D = some (.lst bV) := N4.ext.h D _ kD2 fun z => z
        refine ⟨L3, g2, _, g3, U3.sr, r5, r3', fun σ5 L4 I4 T7 k5 => ?_⟩
        have hl5 : σ5.length = σ4.length := k5.1.trans (wipe_length σ4 vs1)
        have ww1 : wipe σ5 vs1 = wipe σ4 vs1 := wipe_wipe (K := K) hts1 hl5 k5.2
        refine ⟨ww1, ?_⟩
        have U4 := U3.trans T7
        have mD3 := nobD U3.own
        have mD4 := nobD U4.own
        have kD4 : L4 D = none := T7.ext.n D _ hkD3 mD3 kD3
        have hkD4 : I4 D = some (.lst bV) := T7.ext.h D _ hkD3 mD3
        refine ⟨L4, g3, c2, g4, T7.sr, r4, fun L5 I5 T8 => ?_⟩
        have U5 := U4.trans (step_g T8)
        have mD5 := nobD U5.own
        have kD5 : L5 D = none := T8.ext.n D _ hkD4 mD4 kD4
        have hkD5 : I5 D = some (.lst bV) := T8.ext.h D _ hkD4 mD4
        have gs5 := gs.trans ((N4.ext.g.trans T7.ext.g).trans T8.ext.g)
        have rb5 := rb.mono ((N4.ext.g.trans T7.ext.g).trans T8.ext.g)
        cases c2 with
        | false =>
          refine iteF ⟨L5, wipeE g4 vs1, bV, b, r2, fin hv ww1 U5, wipeE_wipeE, gs5, kD5, hkD5, rb5, ?_, fr⟩
          exact ql
        | true =>
          obtain ⟨⟨w, g6⟩, q9, ql⟩ := Option.bind_eq_some_iff.mp (show ((f g4).bind fun y => (lcL vs1 s1 t1 f (ds1.drop (j + 1)) (wipeE y.2 vs1)).map fun r => (y.1 :: r.1, r.2)) = some (r2, e7) from ql)
          obtain ⟨⟨r2', g7⟩, q10, ql⟩ := Option.map_eq_some_iff.mp ql
          cases ql
          refine iteT ⟨L5, g4, w, g6, T8.sr, q9, fun wv L6 I6 T9 rw_ => ?_⟩
          have U6 := U5.trans (step_g T9)
          have kD6 : L6 D = none := T9.ext.n D _ hkD5 mD5 kD5
          have hkD6 : I6 D = some (.lst bV) := T9.ext.h D _ hkD5 mD5
          have rb6 := rb5.mono T9.ext.g
          have U7 := fin hv ww1 U6
          refine ⟨bV, hkD6, ?_, L6, wipeE g6 vs1, bV ++ [wv], b ++ [w], r2', ⟨U7.ext.nobody hD, U7.sr.nobody hkD6 kD6 (nobD U7.own), U7.own, U7.lent⟩, wipeE_wipeE, gs5.trans T9.ext.g, kD6, upd_same, rb6.append (.cons rw_ .nil), q10, by rw [fr, List.append_assoc]; rfl⟩
          have hz' : rs.length ≤ sizeLine := hz
          have h1 := rb.length
          have h2 : rs.length = acc.length + (ys.length + rest'.length) := by rw [er]; simp only [List.length_append]
          have h3 : acc.length + ys.length = b.length + (r2'.length + 1) := by
            have := congrArg List.length fr
            simp only [List.length_append, List.length_cons] at this
            exact this
          omega
      · rw [List.drop_eq_nil_of_le (by omega)] at ql
        cases ql
        refine .inl ⟨l1 (by omega), ?_⟩
        have er2 : acc ++ ys = b := by rw [fr, List.append_nil]
        have e8 : wipe (wipe σ4 vs1) vs = wipe σ vs := by rw [wipe_in hv, ww]
        exact ⟨L2, wipeE e7 vs, bV, b, rest', fin vv e8 U2, wipeE_wipeE, kD, kD2, rb, q8, by rw [er, ← List.append_assoc, er2]⟩
  · rw [List.drop_eq_nil_of_le (by omega)] at pl
    cases pl
    refine .inl ⟨j1 (by omega), ?_⟩
    have B := T2.back S1
    have er2 : rs = acc := by rw [er, List.append_nil]
    refine k _ G2 H2 (T1.trans B) (Res.new (.inl (T1.ext.t D hD)) (fun q => ?_) hD2 gD (.lst (er2 ▸ ra)))
    obtain ⟨o, ho, _⟩ := S1.there (B.own D q)
    rw [hD] at ho
    cases ho
theorem fe_lc2 {R R1 : Given} {elt tg iter tg1 iter1 : Expr} {ifs ifs1 : List Expr} {scope : Scope} {own : List (Str × Nat)} {vs1 ts ts1 : List Nat} {it it1 : Lv} {s s1 : Gv} {t t1 : Tv} {f : Vv} (hc : X.calm = true) (hN : X.N.Nodup) (hi : PI X tg iter (FI R X.K it)) (ok : BlkOk X.N X.env.scope scope own) (hv : ∀ i ∈ vs1, i ∈ own.map (·.2)) (hts : ∀ i ∈ ts, i ∈ own.map (·.2)) (hts1 : ∀ i ∈ ts1, i ∈ vs1)
    (hg : ∀ (s' : Shared) (H : Hp) (C : Addr) (cl : List (Str × Addr)) (fp : List Addr), PG (X.blk s' H scope (compEnvC scope cl C X.env) fp) tg (FG R X.K ts s))
    (ht : ∀ (s' : Shared) (H : Hp) (C : Addr) (cl : List (Str × Addr)) (fp : List Addr), PTs (X.blk s' H scope (compEnvC scope cl C X.env) fp) ifs (FT X.K t))
    (hi1 : ∀ (s' : Shared) (H : Hp) (C : Addr) (cl : List (Str × Addr)) (fp : List Addr), PI (X.blk s' H scope (compEnvC scope cl C X.env) fp) tg1 iter1 (FI R1 X.K it1))
    (hg1 : ∀ (s' : Shared) (H : Hp) (C : Addr) (cl : List (Str × Addr)) (fp : List Addr), PG (X.blk s' H scope (compEnvC scope cl C X.env) fp) tg1 (FG R1 X.K ts1 s1))
    (ht1 : ∀ (s' : Shared) (H : Hp) (C : Addr) (cl : List (Str × Addr)) (fp : List Addr), PTs (X.blk s' H scope (compEnvC scope cl C X.env) fp) ifs1 (FT X.K t1))
    (he : ∀ (s' : Shared) (H : Hp) (C : Addr) (cl : List (Str × Addr)) (fp : List Addr), PE (X.blk s' H scope (compEnvC scope cl C X.env) fp) elt (FV X.K f)) (hs : ∀ x, foldedSetIterable iter X.env x = pure x := by intro _; rfl) (hs1 : ∀ env x, foldedSetIterable iter1 env x = pure x := by intro _ _; rfl) :
    PE X (.ListComp elt [⟨tg, iter, ifs, 0⟩, ⟨tg1, iter1, ifs1, 0⟩] scope pos) (FE X.K (fLc2 (own.map (·.2)) vs1 it s t it1 s1 t1 f)) := pe_imp (pe_lc2 hc hN hi ok hv hg ht hi1 hg1 ht1 he hs hs1) fun _ _ _ h => lc2_of hts hts1 hv h
theorem fs_setLc2 {R R1 : Given} {i : Nat} {y : Str} {py spos : Pos} {elt tg iter tg1 iter1 : Expr} {ifs ifs1 : List Expr} {scope : Scope} {own : List (Str × Nat)} {vs1 ts ts1 : List Nat} {it it1 : Lv} {s s1 : Gv} {t t1 : Tv} {f : Vv} (hc : X.calm = true) (hN : X.N.Nodup) (hi : PI X tg iter (FI R X.K it)) (ok : BlkOk X.N X.env.scope scope own) (hv : ∀ i ∈ vs1, i ∈ own.map (·.2)) (hts : ∀ i ∈ ts, i ∈ own.map (·.2)) (hts1 : ∀ i ∈ ts1, i ∈ vs1)
    (hg : ∀ (s' : Shared) (H : Hp) (C : Addr) (cl : List (Str × Addr)) (fp : List Addr), PG (X.blk s' H scope (compEnvC scope cl C X.env) fp) tg (FG R X.K ts s))
    (ht : ∀ (s' : Shared) (H : Hp) (C : Addr) (cl : List (Str × Addr)) (fp : List Addr), PTs (X.blk s' H scope (compEnvC scope cl C X.env) fp) ifs (FT X.K t))
    (hi1 : ∀ (s' : Shared) (H : Hp) (C : Addr) (cl : List (Str × Addr)) (fp : List Addr), PI (X.blk s' H scope (compEnvC scope cl C X.env) fp) tg1 iter1 (FI R1 X.K it1))
    (hg1 : ∀ (s' : Shared) (H : Hp) (C : Addr) (cl : List (Str × Addr)) (fp : List Addr), PG (X.blk s' H scope (compEnvC scope cl C X.env) fp) tg1 (FG R1 X.K ts1 s1))
    (ht1 : ∀ (s' : Shared) (H : Hp) (C : Addr) (cl : List (Str × Addr)) (fp : List Addr), PTs (X.blk s' H scope (compEnvC scope cl C X.env) fp) ifs1 (FT X.K t1))
    (he : ∀ (s' : Shared) (H : Hp) (C : Addr) (cl : List (Str × Addr)) (fp : List Addr), PE (X.blk s' H scope (compEnvC scope cl C X.env) fp) elt (FV X.K f))
    (hy : X.N[i]? = some y := by rfl) (hyl : X.env.scope.names.lookup y = some .local := by rfl) (hsw : swapsWith (.ListComp elt [⟨tg, iter, ifs, 0⟩, ⟨tg1, iter1, ifs1, 0⟩] scope pos) (some (.Name y py)) spos.line X.env = pure true := by exact sw_true rfl rfl rfl (by decide +kernel)) (hs : ∀ x, foldedSetIterable iter X.env x = pure x := by intro _; rfl) (hs1 : ∀ env x, foldedSetIterable iter1 env x = pure x := by intro _ _; rfl) :
    PS X (.Assign [.Name y py] (.ListComp elt [⟨tg, iter, ifs, 0⟩, ⟨tg1, iter1, ifs1, 0⟩] scope pos) spos) (FS X.K (sSet i (fLc2 (own.map (·.2)) vs1 it s t it1 s1 t1 f))) := ps_imp (ps_setLc2 hc hN hy hyl hsw hi ok hv hg ht hi1 hg1 ht1 he hs hs1) fun D σ H ⟨G, en, o, en', S, e1, k⟩ => by
  obtain ⟨⟨d, b, en1⟩, p1, e2⟩ := Option.bind_eq_some_iff.mp e1
  obtain ⟨hl, e3⟩ := ite_some e2
  cases e3
  exact lc2_of hts hts1 hv ⟨G, en, d, b, en1, S, p1, fun v G1 H1 T r => k G1 H1 _ (T.s.store hl r)⟩
end
end Fx
/-! Fx19: xs[::-1], sorted(set(..)) of whole numbers. -/
namespace Fx
open PySem PySem.Spec L2
open PyProof.Rows (IntsAre)
section
variable {X : Cx} {e : Expr} {p1 p2 p3 pos : Pos}
/-! ### xs[::-1] -/
def dRev : D → Option (D × Bool)
  | .list ds => some (.list ds.reverse, true)
  | _ => none
theorem reps_rev {K : PySem.W.Frag} {G : Hp} : ∀ {xs : List V} {ds : List D}, Reps K G xs ds → Reps K G xs.reverse ds.reverse
  | _, _, .nil => .nil
  | _, _, .cons h t => by
    rw [List.reverse_cons, List.reverse_cons]
    exact (reps_rev t).append (.cons h .nil)
def rRev (K : PySem.W.Frag) : V → Hp → VK → Prop := fun x H Q => ∃ a xs, x = .ref a ∧ SqL K H a xs ∧ ∀ p, H p = none → Q (.ref p) (upd H p (.lst xs.reverse))
theorem o1_rev {K : PySem.W.Frag} : Op1 K (rRev K) dRev := fun x d z b G H Q s u hg k => by
  unfold dRev at hg
  split at hg
  · cases hg
    obtain ⟨a, xs, rfl, h, r⟩ := u.list s
    exact ⟨a, xs, rfl, h, fun p hp => k _ _ _ (New.own s hp) (Fresh.new s hp (.lst (reps_rev r)))⟩
  · cases hg
theorem fe_rev {p : Ov} {k : Nat} (ha : PE X e (FO X.K p)) : PE X (.Subscript e (.Slice none none (some (.UnaryOp .USub (.Constant (.int 1) k p1) p2)) p3) pos) (FE X.K (f1 p dRev)) :=
  pe_imp (pe_revL ha) fun _ _ _ h => t1_of (r := rRev X.K) o1_rev h
end
/-! ### sets of whole numbers in order -/
def insU (k : Int) : List Int → List Int
  | [] => [k]
  | x :: xs => if k < x then k :: x :: xs else if k = x then x :: xs else x :: insU k xs
def setI (ns : List Int) : List Int := ns.foldr insU []
theorem insU_mem {k j : Int} : ∀ {xs : List Int}, j ∈ insU k xs ↔ j = k ∨ j ∈ xs
  | [] => by simp [insU]
  | x :: xs => by
    unfold insU
    split
    · simp
    · split
      · rename_i e
        subst e
        simp
      · simp only [List.mem_cons, insU_mem (xs := xs)]
        constructor
        · rintro (h | h | h) <;> simp [h]
        · rintro (h | h | h) <;> simp [h]
theorem insU_lt {k : Int} : ∀ {xs : List Int}, xs.Pairwise (· < ·) → (insU k xs).Pairwise (· < ·)
  | [], _ => by simp [insU]
  | x :: xs, h => by
    obtain ⟨h1, h2⟩ := List.pairwise_cons.mp h
    unfold insU
    split
    · rename_i hk
      refine List.pairwise_cons.mpr ⟨fun y hy => ?_, h⟩
      rcases List.mem_cons.mp hy with rfl | hy
      · exact hk
      · have := h1 y hy
        omega
    · split
      · exact h
      · refine List.pairwise_cons.mpr ⟨fun y hy => ?_, insU_lt h2⟩
        rcases insU_mem.mp hy with rfl | hy
        · omega
        · exact h1 y hy
theorem setI_mem {j : Int} : ∀ {ns : List Int}, j ∈ setI ns ↔ j ∈ ns
  | [] => by simp [setI]
  | n :: ns => by
    show j ∈ insU n (setI ns) ↔ _
    rw [insU_mem, setI_mem (ns := ns), List.mem_cons]
theorem setI_lt : ∀ {ns : List Int}, (setI ns).Pairwise (· < ·)
  | [] => .nil
  | n :: ns => insU_lt (setI_lt (ns := ns))
theorem lt_uniq : ∀ {xs ys : List Int}, xs.Pairwise (· < ·) → ys.Pairwise (· < ·) → (∀ k, k ∈ xs ↔ k ∈ ys) → xs = ys
  | [], [], _, _, _ => rfl
  | [], y :: ys, _, _, h => by have := (h y).mpr (List.mem_cons_self ..); cases this
  | x :: xs, [], _, _, h => by have := (h x).mp (List.mem_cons_self ..); cases this
  | x :: xs, y :: ys, hx, hy, h => by
    obtain ⟨a1, a2⟩ := List.pairwise_cons.mp hx
    obtain ⟨b1, b2⟩ := List.pairwise_cons.mp hy
    have e : x = y := by
      rcases List.mem_cons.mp ((h x).mp (List.mem_cons_self ..)) with q | q
      · exact q
      · rcases List.mem_cons.mp ((h y).mpr (List.mem_cons_self ..)) with r | r
        · exact r.symm
        · have := a1 y r
          have := b1 x q
          omega
    subst e
    refine congrArg (x :: ·) (lt_uniq a2 b2 fun k => ⟨fun q => ?_, fun q => ?_⟩)
    · rcases List.mem_cons.mp ((h k).mp (List.mem_cons_of_mem _ q)) with r | r
      · have := a1 k q
        omega
      · exact r
    · rcases List.mem_cons.mp ((h k).mpr (List.mem_cons_of_mem _ q)) with r | r
      · have := b1 k q
        omega
      · exact r
theorem nodup_len : ∀ {xs ys : List Int}, xs.Nodup → ys.Nodup → (∀ k, k ∈ xs ↔ k ∈ ys) → xs.length = ys.length := fun {xs ys} hx hy h => by
  have le : ∀ {xs ys : List Int}, xs.Nodup → (∀ k, k ∈ xs → k ∈ ys) → xs.length ≤ ys.length := by
    intro xs
    induction xs with
    | nil => intro ys _ _; exact Nat.zero_le _
    | cons x xs ih =>
      intro ys d hh
      obtain ⟨d1, d2⟩ := List.nodup_cons.mp d
      have hm := hh x (List.mem_cons_self ..)
      have := ih (ys := ys.erase x) d2 fun k hk => by
        have ne : k ≠ x := fun z => d1 (z ▸ hk)
        exact (List.mem_erase_of_ne ne).mpr (hh k (List.mem_cons_of_mem _ hk))
      rw [List.length_erase_of_mem hm] at this
      have := List.length_pos_of_mem hm
      rw [List.length_cons]
      omega
  exact Nat.le_antisymm (le hx fun k => (h k).mp) (le hy fun k => (h k).mpr)
theorem setR_len {w : World} {h : Heap} {a : Addr} {ns : List Int} {c : Nat} (R : SetR w h a (fun j => decide (j ∈ ns)) c) : c = (setI ns).length := by
  obtain ⟨o, es, ep, t, ho, hex, hd, g, nd, hm, hb, hf, hn, hr, hl⟩ := R
  have e : (es.toList.map L2.keyOf).length = c := by rw [List.length_map, Array.length_toList]; exact hn
  rw [← e]
  exact nodup_len nd (setI_lt.imp fun z => by omega) fun k => by rw [← hm k, decide_eq_true_eq, setI_mem]
section
variable {P : Program} {w : World} {A : Around} {E : Value → Shared → Prop} {s : Shared}
/-- set(l) of a list of whole numbers -/
theorem set_of_list {a : Addr} {vs : Array Value} (ns : List Int) {Q : Value → Shared → Prop} (nh : A.handled = none) (hL : s.heap.IsList a vs) (hI : IntsAre vs.toList ns) (hB : ns.length + 1 < scanBound)
    (k : ∀ (g : Heap) (tk c : Nat), SetR w g s.heap.objs.size (fun j => decide (j ∈ ns)) c → c ≤ ns.length → (∀ b o, s.heap.get? b = some o → g.get? b = some o) → Q (.ref s.heap.objs.size) { s with heap := g, toks := tk }) :
    wpAny (model P w) A (call (.type "set") [.ref a]) Q E s := by
  have vz : vs.size = ns.length := by
    have q := IntsAre.length hI
    rwa [Array.length_toList] at q
  obtain ⟨cm, tm, mro⟩ := F.called_set.mro
  have made := F.called_set.made
  have subs := F.called_set.sub
  refine wpAny_call (codeAny_of_tree ?_)
  show wpAny _ _ (callAny (.type "set") _) _ _ _
  refine wpAny_pure ⟨Code.quiet_builtin _ (by decide +kernel), codeAny_builtin F.entry_type_call ?_⟩
  rw [Around.under_plain (weight_type_call_type "set" [.ref a] []) rfl]
  have f1 := F.called_set.notType
  have f2 := F.called_set.canCreate
  have f3 := F.typeCall_set_1 (.ref a)
  repeat (any_goals (first | assumption | wp_step))

  refine codeAny_mono (code_set_led1 (.ref a) (E := E) (Q₁ := fun r u => r = .ref s.heap.objs.size ∧ u = { s with heap := s.heap.push { cls := .type "set", dict := none, data := .set #[] 0 (.fresh 0 0 (!w.params.followText "set-order")) } }) ⟨rfl, rfl⟩) fun r u hr => ?_
  cases r with
  | error x => exact hr
  | ok fl =>
    cases fl with
    | ret ob =>
      obtain ⟨rfl, rfl⟩ := hr
      have at0 : (s.heap.push ({ cls := .type "set", dict := none, data := .set #[] 0 (.fresh 0 0 (!w.params.followText "set-order")) })).get? s.heap.objs.size = some { cls := .type "set", dict := none, data := .set #[] 0 (.fresh 0 0 (!w.params.followText "set-order")) } := Heap.get?_push_size _ rfl
      have ty0 : Shared.TypeIs { s with heap := s.heap.push ({ cls := .type "set", dict := none, data := .set #[] 0 (.fresh 0 0 (!w.params.followText "set-order")) }) } (.ref s.heap.objs.size) "set" := ⟨_, at0, rfl⟩
      have li := F.called_set.init.lookup
      have bi := F.called_set.init.bind (.ref s.heap.objs.size)
      repeat (any_goals (first | assumption | wp_step))

      refine codeAny_mono (codeAny_call_builtin (R := wants (fun r t => r = .none ∧ ∃ g tk c, t = { s with heap := g, toks := tk } ∧ SetR w g s.heap.objs.size (fun j => decide (j ∈ ns)) c ∧ c ≤ ns.length ∧ ∀ b o, s.heap.get? b = some o → g.get? b = some o) E)
        F.called_set.init.plain F.entry_set_init (check_set_init_1 ty0 ?_)) fun r t ht => ?_
      · obtain ⟨ol, oa, oc, no, od⟩ := hL
        obtain ⟨lc, ld, ldat, ls⟩ := ol
        simp only at oc od
        subst oc; subst od
        have oa' : (s.heap.push ({ cls := .type "set", dict := none, data := .set #[] 0 (.fresh 0 0 (!w.params.followText "set-order")) })).get? a = some { cls := .type "list", dict := ld, data := .seq vs no, slots := ls } := Heap.get?_push_of_some _ oa
        have g1 := F.sub_list_set
        have g2 := F.sub_list_frozenset
        have g3 : (Value.type "list" == Value.type "dict") = false := by decide
        have L1 : (s.heap.push ({ cls := .type "set", dict := none, data := .set #[] 0 (.fresh 0 0 (!w.params.followText "set-order")) })).IsList a vs := ⟨_, oa', rfl, no, rfl⟩
        unfold Builtin.«set.__init__» noKeywords Builtin.Frozenset.updateFrom
        generalize eP : pyIter = PI
        wp_walk
        subst eP

        refine wpAny_pyIter_list (s := { s with heap := s.heap.push ({ cls := .type "set", dict := none, data := .set #[] 0 (.fresh 0 0 (!w.params.followText "set-order")) }) }) L1 ?_
        refine wpAny_bind (wpAny_runValue ?_)
        have ltA : a < s.heap.objs.size := Heap.lt_size oa
        have nh3 : A.in1.in1.in1.handled = none := by simp [nh]
        have szN : (s.heap.push ({ cls := .type "set", dict := none, data := .set #[] 0 (.fresh 0 0 (!w.params.followText "set-order")) })).objs.size = s.heap.objs.size + 1 := Heap.size_push ..
        have neI : a ≠ (s.heap.push ({ cls := .type "set", dict := none, data := .set #[] 0 (.fresh 0 0 (!w.params.followText "set-order")) })).objs.size := by rw [szN]; exact Nat.ne_of_lt (Nat.lt_succ_of_lt ltA)
        have offS : s.heap.objs.size ∉ [(s.heap.push ({ cls := .type "set", dict := none, data := .set #[] 0 (.fresh 0 0 (!w.params.followText "set-order")) })).objs.size, a] := by
          rw [szN]
          simp only [List.mem_cons, List.not_mem_nil, or_false, not_or]
          exact ⟨Nat.ne_of_lt (Nat.lt_succ_self _), Nat.ne_of_gt ltA⟩
        have vals : ∀ (i : Nat) (v : Value), vs[i]? = some v → ∃ j t, ns[i]? = some j ∧ v = .int j t := fun i v hv => by
          have hi : i < ns.length := by rw [← vz]; exact (Array.getElem?_eq_some_iff.mp hv).1
          obtain ⟨t, et⟩ := PyProof.Rows.IntsAre.int_at hI i v (by rw [Array.getElem?_toList]; exact hv)
          refine ⟨ns[i], t, List.getElem?_eq_getElem hi, ?_⟩
          rw [et, List.getD_eq_getElem?_getD, List.getElem?_eq_getElem hi] <;> rfl
        refine set_update_ints ((Walks.list nh3 _ a neI vs).toS) s.heap.objs.size offS ns vz hB vals (vs.size - 0) 0 _ (by omega) (Nat.zero_le _) ⟨⟨_, Heap.get?_push_size _ rfl, rfl, rfl⟩, (L1.push _)⟩ ?s0 ?s1
        case s0 =>
          exact ⟨0, Nat.le_refl 0, setR_new_at (Heap.get?_push_of_some _ at0)⟩
        case s1 =>
          intro u c hm hc hR
          obtain ⟨g, gg, dd, tk, oo⟩ := u
          have x1 : gg = s.gens := hm.gens
          have x2 : dd = s.drawn := hm.drawn
          have x3 : oo = s.os := hm.os
          subst x1; subst x2; subst x3
          show wpAny _ _ _ _ _ _
          refine wpAny_pure ?_
          show wpAny _ _ (ret Value.none) _ _ _
          rw [vz] at hc
          refine wpAny_pure ⟨rfl, g, tk, c, rfl, hR, hc, fun b o hb => ?_⟩
          have lb : b < s.heap.objs.size := Heap.lt_size hb
          refine hm.heap b o ?_ (Heap.get?_push_of_some _ (Heap.get?_push_of_some _ hb))
          simp only [List.mem_cons, List.not_mem_nil, or_false, not_or]
          exact ⟨Nat.ne_of_lt lb, by rw [szN]; exact Nat.ne_of_lt (Nat.lt_succ_of_lt lb)⟩

      · cases r with
        | error x => exact ht
        | ok fl =>
          cases fl with
          | ret v =>
            obtain ⟨rfl, g, tk, c, rfl, hR, hc, hk⟩ := ht
            repeat (any_goals (first | assumption | wp_step))
            exact k _ _ _ hR hc hk
          | _ => exact ht.elim
    | _ => exact hr.elim
end
def rSetL (K : PySem.W.Frag) (w : World) : List V → Hp → VK → Prop := fun vs H Q => ∃ (a : Addr) (ns : List Int), vs = [.ref a] ∧ (SqL K H a (ns.map V.int) ∨ SqT K H a (ns.map V.int)) ∧ ns.length ≤ 1000 ∧ ∀ p, H p = none → Q (.ref p) (upd H p (SetO w p (fun j => decide (j ∈ ns)) (setI ns).length))
section
variable {X : Cx} {e : Expr} {p1 p2 pos pos2 : Pos}
theorem cr_setL (hc : X.calm = true) : CallR X (.type "set") (rSetL X.K X.w) := by
  intro pins s σ H vs us Q I r ⟨a, ns, ev, hq, hl, q⟩
  subst ev
  rw [Vals.ref1 r]
  have hd := I.ok.hd hc
  have sb : ns.length + 1 < scanBound := by unfold scanBound; omega
  have fin : ∀ (g : Heap) (tk c : Nat), SetR X.w g s.heap.objs.size (fun j => decide (j ∈ ns)) c → c ≤ ns.length → (∀ b o, s.heap.get? b = some o → g.get? b = some o) → EP X pins σ Q (.ref s.heap.objs.size) { s with heap := g, toks := tk } := fun g tk c R _ k => by
    have ec := setR_len R
    subst ec
    exact ⟨.ref _, upd H s.heap.objs.size (SetO X.w s.heap.objs.size (fun j => decide (j ∈ ns)) (setI ns).length), I.laid (t' := tk) k (Nat.le_refl _) (setO_new R), rfl, q _ (I.hok.fresh (Nat.le_refl _))⟩
  rcases hq with hq | hq
  · obtain ⟨its, rv, pl, hz⟩ := I.list hq
    exact set_of_list ns hd (show s.heap.IsList a its.toArray from pl.isList) (ints_of_vals rv) sb fin
  · obtain ⟨its, rv, pl, hz⟩ := I.tuple hq
    exact call_set_tupI ns hd (show s.heap.IsTuple a its.toArray from pl) (ints_of_vals rv) sb fin
def lstD : D → Option (List D)
  | .list ds => some ds
  | .tuple ds => some ds
  | _ => none
def dSortSet : List D → Option (D × Bool)
  | [d] => (lstD d).bind fun ds => (intsD ds).bind fun ns => if ns.length ≤ 1000 ∧ (setI ns).length < 64 then some (.list ((setI ns).map .int), true) else none
  | _ => none
theorem reps_ofI {K : PySem.W.Frag} {G : Hp} : ∀ ns : List Int, Reps K G (ns.map V.int) (ns.map .int)
  | [] => .nil
  | n :: ns => .cons (.int _) (reps_ofI ns)
theorem fe_sortSet {l : Av} (hc : X.calm = true) (hm1 : X.mg "sorted" = none) (hm2 : X.mg "set" = none) (ha : PA X [e] (FA X.K l)) (hg1 : Gl X "sorted" := by rfl) (hg2 : Gl X "set" := by rfl) (n1 : starEach [e] X.env = (false, eval e X.env) :: starEach [] X.env := by rfl)
    (n2 : starEach [.Call (.Name "set" p2) [e] [] pos2] X.env = (false, eval (.Call (.Name "set" p2) [e] [] pos2) X.env) :: starEach [] X.env := by rfl) : PE X (.Call (.Name "sorted" p1) [.Call (.Name "set" p2) [e] [] pos2] [] pos) (FE X.K (fN l dSortSet)) :=
  pe_imp (pe_callB (cr_sortedSet hc) hg1 hm1 PyProof.Rows.boot_sorted (pa_cons (pe_callTy (cr_setL hc) hg2 hm2 PyProof.Rows.boot_set ha (by decide) (by decide) n1 rfl) pa_nil n2) (by decide) (by decide) n2 rfl) fun σ H Q h => by
    refine tN_of (r := fun vs H Q => rSetL X.K X.w vs H fun v H1 => rSortedSet X.w [v] H1 Q) ?_ h
    intro vs ds z b G H Q s u hg k
    unfold dSortSet at hg
    split at hg
    · obtain ⟨es, h1, hg⟩ := Option.bind_eq_some_iff.mp hg
      obtain ⟨ns, h2, hg⟩ := Option.bind_eq_some_iff.mp hg
      obtain ⟨⟨h3, h4⟩, hg⟩ := ite_some hg
      cases hg
      obtain ⟨v, rfl, u0⟩ := u.one
      have fin : ∀ p, H p = none → rSortedSet X.w [V.ref p] (upd H p (SetO X.w p (fun j => decide (j ∈ ns)) (setI ns).length)) Q := fun p hp => by
        refine ⟨p, _, _, rfl, upd_same, h4, fun ms q hlt hme hle hq => ?_⟩
        have e : ms = setI ns := lt_uniq hlt setI_lt fun j => by rw [hme, decide_eq_true_eq, setI_mem]
        subst e
        have N := New.own (o := SetO X.w p (fun j => decide (j ∈ ns)) (setI ns).length) s hp
        have N2 := New.own (o := .lst ((setI ns).map V.int)) N.sub hq
        have hq0 : H q = none := N.ext.t q hq
        exact k _ _ _ ⟨N.ext.trans N2.ext fun _ z => z.elim, N2.sub⟩ ⟨q, _, rfl, .inl hq0, fun z => z, upd_same, s.free hq0, .lst (reps_ofI _)⟩
      unfold lstD at h1
      split at h1
      · cases h1
        obtain ⟨a, xs, rfl, h, r⟩ := u0.list s
        exact ⟨a, ns, rfl, .inl (intsD_of r h2 ▸ h), h3, fin⟩
      · cases h1
        obtain ⟨a, xs, rfl, h, r⟩ := u0.tuple s
        exact ⟨a, ns, rfl, .inr (intsD_of r h2 ▸ h), h3, fin⟩
      · cases h1
    · cases hg
end
end Fx
/-! Fx20: xs.remove(k). -/
namespace Fx
open PySem PySem.Spec L2
def mRem : D → List D → Option (D × Bool × D)
  | .list ds, [.int k] => (intsD ds).bind fun ns => if k ∈ ns then some (.none, false, .list ((ns.erase k).map .int)) else none
  | _, _ => none
theorem om_rem {K : PySem.W.Frag} : OpM K rRemI mRem := fun l o d xs ds z b d' G H Q s g h r rs e k => by
  unfold mRem at e
  split at e
  · rename_i es k0
    obtain ⟨ns, e1, e2⟩ := Option.bind_eq_some_iff.mp e
    obtain ⟨hk, e3⟩ := ite_some e2
    cases e3
    cases r with
    | lst q =>
      cases rs with
      | cons r1 r2 =>
        cases r2
        cases r1
        have ex := intsD_of q e1
        subst ex
        have hj : ns.idxOf k0 < ns.length := List.idxOf_lt_length_of_mem hk
        refine ⟨l, ns, k0, ns.idxOf k0, rfl, rfl, h, ?_, fun m hm e => ?_, ?_⟩
        · rw [List.getElem?_eq_getElem hj, List.getElem_idxOf]
        · obtain ⟨hl, e4⟩ := List.getElem?_eq_some_iff.mp e
          exact absurd e4 (by
            intro z
            have := List.not_of_lt_findIdx (p := (· == k0)) (xs := ns) (i := m) hm
            simp [z] at this)
        · rw [← List.erase_eq_eraseIdx_of_idxOf rfl]
          exact opM_upd s g h (.lst (reps_ofI _)) .non k
  · cases e
end Fx
/-! Fx21: [..] * k of a new list; comprehensions over the keys of a dict of this frame. -/
namespace Fx
open PySem PySem.Spec L2
/-! ### [..] * k -/
def fRep (f : Ev) (q : Ov) : Ev := fun en => (f en).bind fun x => (q x.2.2).bind fun y => (y.1.late y.2).bind fun e => match x.1, x.2.1, e with
  | .list ds, true, .int k => if -(2 ^ 63) ≤ k ∧ k < 2 ^ 63 ∧ ds.length * k.toNat ≤ sizeLine then some (.list (List.replicate k.toNat ds).flatten, true, y.2) else none
  | _, _, _ => none
theorem reps_rep {K : PySem.W.Frag} {G : Hp} {xs : List V} {ds : List D} (h : Reps K G xs ds) : ∀ n : Nat, Reps K G (List.replicate n xs).flatten (List.replicate n ds).flatten
  | 0 => .nil
  | n + 1 => by
    rw [List.replicate_succ, List.replicate_succ, List.flatten_cons, List.flatten_cons]
    exact h.append (reps_rep h n)
section
variable {X : Cx} {a b : Expr} {pos : Pos}
theorem fe_rep {f : Ev} {q : Ov} (ha : PE X a (FE X.K f)) (hb : PE X b (FO X.K q)) : PE X (.BinOp a .Mult b pos) (FE X.K (fRep f q)) :=
  pe_imp (pe_op op_rep ha hb) fun σ H Q ⟨G, en, z, zb, en', S, e1, k⟩ => by
    obtain ⟨⟨d, fl, en1⟩, p1, e2⟩ := Option.bind_eq_some_iff.mp e1
    obtain ⟨⟨y, en2⟩, p2, e3⟩ := Option.bind_eq_some_iff.mp e2
    obtain ⟨e, p3, e4⟩ := Option.bind_eq_some_iff.mp e3
    refine ⟨G, en, d, fl, en1, S, p1, fun v G1 H1 T1 r1 => ⟨G1, en1, y, en2, T1.sr, p2, fun w G2 H2 T2 r2 => ?_⟩⟩
    have u2 := r2.use T2.sr p3
    dsimp only at e4
    split at e4
    · rename_i ds kk
      obtain ⟨⟨h1, h2, h3⟩, e5⟩ := ite_some e4
      cases e5
      obtain ⟨l, o, rfl, _, n1, hl, gl, ro⟩ := r1
      cases ro with
      | lst rr =>
        have hl2 := T2.ext.h l _ hl n1
        have rr2 := rr.mono T2.ext.g
        refine ⟨l, kk, _, rfl, u2.int, hl2, h1, h2, by rw [rr2.length]; exact h3, fun p hp => ?_⟩
        exact k _ _ _ ((T1.trans T2).trans ((New.own T2.sr.sub hp).step T2.sr)) ((Fresh.new T2.sr.sub hp (.lst (reps_rep rr2 _))).res' (T1.trans T2))
    · cases e4
end
/-! ### comprehensions, the walk given -/
def JOk2 (R : Given) (K : PySem.W.Frag) (J : It) (G0 H0 : Hp) (O : Addr → Prop) (ds : List D) : Prop := ∀ i G H, Same G0 G → Same G H → (∀ a o, H0 a = some o → ¬ O a → H a = some o) → (ds.length ≤ i → J.stop i H) ∧ ∀ d, ds[i]? = some d → J.go i H ∧ ∀ x H', J.yld i H x H' → ∃ G', New G H G' H' ∧ R K G' x d
theorem lcJ_of {R : Given} {K : PySem.W.Frag} {vs ts : List Nat} {s : Gv} {t : Tv} {f : Vv} (hts : ∀ i ∈ ts, i ∈ vs) {σ : St} {G1 H1 : Hp} {en1 en2 : En} {ds rs : List D} (S1 : SR K G1 H1 en1 σ) (p2 : lcL vs s t f ds (wipeE en1 vs) = some (rs, en2)) (hz : rs.length ≤ sizeLine) {J : It} (hJ : JOk2 R K J G1 H1 (OwnA en1 σ) ds) {Q : VK}
    (k : ∀ v G' H', Step K en1 (backE en1 en2 vs) σ G1 H1 G' H' → Res K (OwnA en1 σ) H1 (OwnA (backE en1 en2 vs) σ) G' H' v (.list rs) true → Q v H') :
    ∀ D, H1 D = none → ∃ W : Nat → Nat → Hp → Prop, (∃ m, W 0 m (upd H1 D (.lst []))) ∧ ∀ i m H, W i m H → (J.stop i H ∧ Q (.ref D) H) ∨ (J.go i H ∧ ∃ Nx : Hp → Prop, (∀ H', Nx H' → ∃ m', m' < m ∧ W (i + 1) m' H') ∧ ∀ x H', J.yld i H x H' → FG R K ts s x (wipe σ vs) H' fun σ2 H2 => wipe σ2 vs = wipe σ vs ∧ FT K t σ2 H2 fun b H3 => if b = true then FV K f σ2 H3 fun y H4 => ∃ acc, H4 D = some (.lst acc) ∧ acc.length < sizeLine ∧ Nx (upd H4 D (.lst (acc ++ [y]))) else Nx H3) := by
  intro D hD
  have nobD : ∀ {e : En} {σ' : St}, (∀ b, OwnA e σ' b → OwnA (wipeE en1 vs) (wipe σ vs) b) → ¬ OwnA e σ' D := fun {e σ'} hh q => by
    obtain ⟨o, ho, _⟩ := S1.there (own_wipe (hh D q))
    rw [hD] at ho
    cases ho
  refine ⟨fun i m H' => ∃ G' e' accV acc rest, StepG K (wipeE en1 vs) (wipe σ vs) G1 H1 e' (wipe σ vs) G' H' ∧ wipeE e' vs = e' ∧ G' D = none ∧ H' D = some (.lst accV) ∧ Reps K G' accV acc ∧ m = ds.length - i ∧ lcL vs s t f (ds.drop i) e' = some (rest, en2) ∧ rs = acc ++ rest, ⟨ds.length, G1, _, [], [], rs, ?_, wipeE_wipeE, S1.sub.free hD, upd_same, .nil, rfl, p2, rfl⟩, ?_⟩
  · have N := New.own (o := .lst []) S1.sub hD
    exact step_g (N.step S1.wipe)
  rintro i m H2 ⟨G2, e2, accV, acc, rest, T2, w2, gD, hD2, ra, rfl, pl, er⟩
  have nD2 := nobD T2.own
  have gg : Same G1 G2 := T2.ext.g
  obtain ⟨j1, j2⟩ := hJ i G2 H2 gg T2.sr.sub fun a o h n => T2.ext.h a o h fun z => n (own_wipe z)
  by_cases hi : i < ds.length
  · rw [List.drop_eq_getElem_cons hi] at pl
    obtain ⟨e3, q3, pl⟩ := Option.bind_eq_some_iff.mp pl
    obtain ⟨⟨c, e4⟩, q4, pl⟩ := Option.bind_eq_some_iff.mp pl
    rw [w2] at q3
    obtain ⟨j3, j4⟩ := j2 ds[i] (List.getElem?_eq_getElem hi)
    refine .inr ⟨j3, fun H' => ∃ G' e' accV acc rest, StepG K (wipeE en1 vs) (wipe σ vs) G1 H1 e' (wipe σ vs) G' H' ∧ wipeE e' vs = e' ∧ G' D = none ∧ H' D = some (.lst accV) ∧ Reps K G' accV acc ∧ lcL vs s t f (ds.drop (i + 1)) e' = some (rest, en2) ∧ rs = acc ++ rest,
      fun H' ⟨G', e', aV, a, r, h1, h2, h3, h4, h5, h6, h7⟩ => ⟨ds.length - (i + 1), by omega, G', e', aV, a, r, h1, h2, h3, h4, h5, rfl, h6, h7⟩, fun x H3 hy => ?_⟩
    obtain ⟨G3, N3, r3⟩ := j4 x H3 hy
    have T3 := T2.trans (step_g (N3.step T2.sr))
    have gD3 : G3 D = none := N3.ext.n D _ hD2 (fun z => z) gD
    have hD3 : H3 D = some (.lst accV) := N3.ext.h D _ hD2 fun z => z
    refine ⟨G3, e2, _, e3, T3.sr, r3, q3, fun σ4 G4 H4 T4 k4 => ?_⟩
    have hl4 : σ4.length = σ.length := k4.1.trans (wipe_length σ vs)
    have ww : wipe σ4 vs = wipe σ vs := wipe_wipe (K := K) hts hl4 k4.2
    refine ⟨ww, ?_⟩
    have T34 := T3.trans T4
    have nD4 := nobD T34.own
    have nD3 := nobD T3.own
    have gD4 : G4 D = none := T4.ext.n D _ hD3 nD3 gD3
    have hD4 : H4 D = some (.lst accV) := T4.ext.h D _ hD3 nD3
    refine ⟨G4, e3, c, e4, T4.sr, q4, fun G5 H5 T5 => ?_⟩
    have T35 := T34.trans (step_g T5)
    have nD5 := nobD T35.own
    have gD5 : G5 D = none := T5.ext.n D _ hD4 nD4 gD4
    have hD5 : H5 D = some (.lst accV) := T5.ext.h D _ hD4 nD4
    have fin : ∀ {e6 : En} {G6 H6 : Hp}, StepG K (wipeE en1 vs) (wipe σ vs) G1 H1 e6 σ4 G6 H6 → StepG K (wipeE en1 vs) (wipe σ vs) G1 H1 (wipeE e6 vs) (wipe σ vs) G6 H6 := fun {e6 G6 H6} T => by
      have W := T.sr.wipe (vs := vs)
      rw [ww] at W
      refine ⟨T.ext, W, fun b q => ?_, fun i d q => ?_⟩
      · rw [← ww] at q
        exact T.own b (own_wipe q)
      · obtain ⟨⟨d', e'⟩, s'⟩ := T.lent i d q
        exact ⟨⟨d', by rw [wipeE_off (wipeE_at q).2]; exact e'⟩, rfl⟩
    cases c with
    | false =>
      refine iteF ⟨G5, wipeE e4 vs, accV, acc, rest, fin T35, wipeE_wipeE, gD5, hD5, ra.mono ((N3.ext.g.trans T4.ext.g).trans T5.ext.g), ?_, er⟩
      exact pl
    | true =>
      obtain ⟨⟨y, e6⟩, q6, pl⟩ := Option.bind_eq_some_iff.mp (show ((f e4).bind fun y => (lcL vs s t f (ds.drop (i + 1)) (wipeE y.2 vs)).map fun r => (y.1 :: r.1, r.2)) = some (rest, en2) from pl)
      obtain ⟨⟨rest', en3⟩, q7, pl⟩ := Option.map_eq_some_iff.mp pl
      cases pl
      refine iteT ⟨G5, e4, y, e6, T5.sr, q6, fun yv G6 H6 T6 ry => ?_⟩
      have T36 := T35.trans (step_g T6)
      have gD6 : G6 D = none := T6.ext.n D _ hD5 nD5 gD5
      have hD6 : H6 D = some (.lst accV) := T6.ext.h D _ hD5 nD5
      have ra6 := ra.mono (((N3.ext.g.trans T4.ext.g).trans T5.ext.g).trans T6.ext.g)
      have T7 := fin T36
      refine ⟨accV, hD6, ?_, G6, wipeE e6 vs, accV ++ [yv], acc ++ [y], rest', ⟨T7.ext.nobody hD, T7.sr.nobody hD6 gD6 (nobD T7.own), T7.own, T7.lent⟩, wipeE_wipeE, gD6, upd_same, ra6.append (.cons ry .nil), q7, by rw [er, List.append_assoc]; rfl⟩
      have h1 := ra.length
      rw [er, List.length_append, List.length_cons] at hz
      omega
  · rw [List.drop_eq_nil_of_le (by omega)] at pl
    cases pl
    refine .inl ⟨j1 (by omega), ?_⟩
    have B := T2.back S1
    have er2 : rs = acc := by rw [er, List.append_nil]
    refine k _ G2 H2 B (Res.new (.inl hD) (fun q => ?_) hD2 gD (.lst (er2 ▸ ra)))
    obtain ⟨o, ho, _⟩ := S1.there (B.own D q)
    rw [hD] at ho
    cases ho
/-! ### .. over the keys of a dict of this frame -/
def fLcK (vs : List Nat) (i : Nat) (s : Gv) (t : Tv) (f : Vv) : Ev := fun en => match en[i]? with
  | some (some (.dict es, .own)) => (lcL vs s t f (es.map (·.1)) (wipeE (en.set i none) vs)).bind fun y => if y.1.length ≤ sizeLine then some (.list y.1, true, (backE (en.set i none) y.2 vs).set i (some (.dict es, .own))) else none
  | _ => none
theorem repKV_at {K : PySem.W.Frag} {G : Hp} : ∀ {kvs : List (Key × V)} {es : List (D × D)} {i : Nat}, RepKV K G kvs es → (es.map (·.1)).length = kvs.length ∧ ∀ d, (es.map (·.1))[i]? = some d → ∃ k v, kvs[i]? = some (k, v) ∧ d = kD k
  | _, _, i, .nil => ⟨rfl, fun d h => by simp at h⟩
  | _, _, 0, .cons (k := k) (v := v) h t => ⟨by have := (repKV_at (i := 0) t).1; simp at this ⊢; exact this, fun d e => by simp at e; exact ⟨k, v, rfl, e.symm⟩⟩
  | _, _, i + 1, .cons h t => ⟨by have := (repKV_at (i := 0) t).1; simp at this ⊢; exact this, fun d e => (repKV_at (i := i) t).2 d (by simpa using e)⟩
theorem rep_key {K : PySem.W.Frag} {G : Hp} (k : Key) : Rep K G (kV k) (kD k) := by
  cases k
  · exact .int _
  · exact .str _
section
variable {K : PySem.W.Frag} {G H G1 H1 : Hp} {en : En} {σ : St} {i : Nat} {a : Addr} {es : List (D × D)} {kvs : List (Key × V)}
theorem SR.hide (S : SR K G H en σ) (o : HO) (hG : G a = none) (hs : σ[i]? = some (some (.ref a))) {d : D} (he : en[i]? = some (some (d, .own))) : SR K G (upd H a o) (en.set i none) σ := by
  refine ⟨fun b u e => ?_, by rw [List.length_set]; exact S.len, fun j d q => ?_, fun j d f q n => ?_, fun j k d e f g b q1 n1 q2 n2 s1 s2 => ?_⟩
  · have hb : b ≠ a := fun z => by rw [z, hG] at e; cases e
    rw [upd_ne hb]
    exact S.sub b u e
  · rcases set_at q with ⟨_, w, _⟩ | ⟨_, w⟩
    · cases w
    · exact S.shd j d w
  · rcases set_at q with ⟨_, w, _⟩ | ⟨hj, w⟩
    · cases w
    · obtain ⟨x, u, s1, s2, s3, s4⟩ := S.own j d f w n
      have hx : x ≠ a := fun z => hj (S.sep j i _ _ f .own a w n he (fun z => by cases z) (z ▸ s1) hs)
      exact ⟨x, u, s1, s2, by rw [upd_ne hx]; exact s3, s4⟩
  · rcases set_at q1 with ⟨_, w, _⟩ | ⟨_, w1⟩
    · cases w
    · rcases set_at q2 with ⟨_, w, _⟩ | ⟨_, w2⟩
      · cases w
      · exact S.sep j k d e f g b w1 n1 w2 n2 s1 s2
theorem hide_not (S : SR K G H en σ) (hs : σ[i]? = some (some (.ref a))) {d : D} (he : en[i]? = some (some (d, .own))) : ¬ OwnA (en.set i none) σ a := by
  rintro ⟨j, d2, f, q, n, s⟩
  rcases set_at q with ⟨_, w, _⟩ | ⟨hj, w⟩
  · cases w
  · exact hj (S.sep j i _ _ f .own a w n he (fun z => by cases z) s hs)
theorem hide_own (he : ∃ d, en[i]? = some (some (d, Fl.own))) {b : Addr} (h : OwnA (en.set i none) σ b) : OwnA en σ b := by
  obtain ⟨j, d2, f, q, n, s⟩ := h
  rcases set_at q with ⟨_, w, _⟩ | ⟨hj, w⟩
  · cases w
  · exact ⟨j, d2, f, w, n, s⟩
/-- the dict comes back to its slot -/
theorem Step.unhide {e2 : En} {o o0 : HO} (S : SR K G H en σ) (hG : G a = none) (hH : H a = some o) (hs : σ[i]? = some (some (.ref a))) {d : D} (he : en[i]? = some (some (d, .own))) (ro : RepO K G o d) (T : Step K (en.set i none) e2 σ G (upd H a o0) G1 H1) : Step K en (e2.set i (some (d, .own))) σ G H G1 (upd H1 a o) := by
  have na := hide_not S hs he
  have hi : i < en.length := (List.getElem?_eq_some_iff.mp he).1
  have hl2 : e2.length = σ.length := T.sr.len
  have hl : en.length = σ.length := S.len
  have g1 : G1 a = none := T.ext.n a o0 upd_same na hG
  have h1 : H1 a = some o0 := T.ext.h a o0 upd_same na
  have off : ∀ {b : Addr}, OwnA e2 σ b → b ≠ a := fun {b} q z => na (z ▸ T.own b q)
  have ro1 := ro.mono T.ext.g
  refine ⟨⟨T.ext.g, fun b u e n => ?_, fun b u e n g => ?_, fun b e => ?_⟩, ⟨fun b u e => ?_, by rw [List.length_set]; exact hl2, fun j d2 q => ?_, fun j d2 f q n => ?_, fun j k d2 e f g b q1 n1 q2 n2 s1 s2 => ?_⟩, fun b q => ?_, fun j d2 q => ?_⟩
  · have hb : b ≠ a := fun z => n ⟨i, d, .own, he, (fun z => by cases z), z ▸ hs⟩
    rw [upd_ne hb]
    exact T.ext.h b u (by rw [upd_ne hb]; exact e) fun z => n (hide_own ⟨d, he⟩ z)
  · have hb : b ≠ a := fun z => n ⟨i, d, .own, he, (fun z => by cases z), z ▸ hs⟩
    exact T.ext.n b u (by rw [upd_ne hb]; exact e) (fun z => n (hide_own ⟨d, he⟩ z)) g
  · by_cases hb : b = a
    · rw [hb, upd_same] at e
      cases e
    · rw [upd_ne hb] at e
      have := T.ext.t b e
      rw [upd_ne hb] at this
      exact this
  · have hb : b ≠ a := fun z => by rw [z, g1] at e; cases e
    rw [upd_ne hb]
    exact T.sr.sub b u e
  · rcases set_at q with ⟨_, w, _⟩ | ⟨_, w⟩
    · cases w
    · exact T.sr.shd j d2 w
  · rcases set_at q with ⟨rfl, w, _⟩ | ⟨hj, w⟩
    · cases w
      exact ⟨a, o, hs, g1, upd_same, ro1⟩
    · obtain ⟨x, u, s1, s2, s3, s4⟩ := T.sr.own j d2 f w n
      have hx : x ≠ a := off ⟨j, d2, f, w, n, s1⟩
      exact ⟨x, u, s1, s2, by rw [upd_ne hx]; exact s3, s4⟩
  · rcases set_at q1 with ⟨h1, w, _⟩ | ⟨hj, w1⟩
    · rcases set_at q2 with ⟨h2, w', _⟩ | ⟨hk, w2⟩
      · exact h1.trans h2.symm
      · subst h1
        rw [hs] at s1
        cases s1
        exact absurd rfl (off ⟨k, e, g, w2, n2, s2⟩)
    · rcases set_at q2 with ⟨h2, w', _⟩ | ⟨hk, w2⟩
      · subst h2
        rw [hs] at s2
        cases s2
        exact absurd rfl (off ⟨j, d2, f, w1, n1, s1⟩)
      · exact T.sr.sep j k d2 e f g b w1 n1 w2 n2 s1 s2
  · obtain ⟨j, d2, f, q, n, s⟩ := q
    rcases set_at q with ⟨h1, w, _⟩ | ⟨hj, w⟩
    · subst h1
      exact ⟨j, d, .own, he, (fun z => by cases z), s⟩
    · exact hide_own ⟨d, he⟩ (T.own b ⟨j, d2, f, w, n, s⟩)
  · have hj : j ≠ i := fun z => by rw [z, he] at q; cases q
    obtain ⟨d', q'⟩ := T.lent j d2 (by rw [List.getElem?_set_ne (Ne.symm hj)]; exact q)
    exact ⟨d', by rw [List.getElem?_set_ne (Ne.symm hj)]; exact q'⟩
end
section
variable {X : Cx} {e : Expr} {pos : Pos}
theorem lcK_of {K : PySem.W.Frag} {vs ts : List Nat} {i : Nat} {s : Gv} {t : Tv} {f : Vv} (hts : ∀ i ∈ ts, i ∈ vs) {σ : St} {H : Hp} {Q : VK} (h : FE K (fLcK vs i s t f) σ H Q) : tLockE (tLc (iKeys (tVar i)) (FG Rep K ts s) (FT K t) (FV K f) vs) σ H Q := by
  obtain ⟨G, en, z, zb, en', S, e1, k⟩ := h
  unfold fLcK at e1
  split at e1
  · rename_i es he
    obtain ⟨⟨rs, en2⟩, p2, e2⟩ := Option.bind_eq_some_iff.mp e1
    obtain ⟨hz, e3⟩ := ite_some e2
    cases e3
    obtain ⟨a, o, hs, hG, hH, ro⟩ := S.own i _ .own he (fun z => by cases z)
    cases ro with
    | dK rr =>
      rename_i kvs
      refine ⟨a, _, hH, trivial, fun od => ?_⟩
      have S1 := S.hide (.frz od (.dK kvs)) hG hs he
      have na := hide_not S hs he
      refine ⟨.ref a, hs, a, od, rfl, .inl ⟨kvs, upd_same, ?_⟩⟩
      refine lcJ_of (R := Rep) (J := Itk a od kvs) (Q := fun v H' => H' a = some (.frz od (.dK kvs)) ∧ Q v (upd H' a (.dK kvs))) hts S1 p2 hz (fun j G2 H2 s1 s2 pr => ?_) fun v G' H' T r => ?_
      · have ha := pr a _ upd_same na
        obtain ⟨hl, hk⟩ := repKV_at (i := j) rr
        refine ⟨fun hj => ⟨ha, hl ▸ hj⟩, fun d hd => ?_⟩
        obtain ⟨kk, vv, q1, rfl⟩ := hk d hd
        refine ⟨⟨ha, (List.getElem?_eq_some_iff.mp q1).1⟩, fun x H' ⟨e, k2, v2, q2, ex⟩ => ?_⟩
        subst e
        rw [q1] at q2
        cases q2
        exact ⟨G2, New.refl s2, ex ▸ rep_key kk⟩
      · have T2 := Step.unhide S hG hH hs he (.dK rr) T
        have fa := T.ext.h a _ upd_same na
        refine ⟨fa, k v G' _ T2 ?_⟩
        obtain ⟨x, o, ex, q1, q2, q3, q4, q5⟩ := r
        have hx : x ≠ a := by
          rintro rfl
          rcases q1 with q1 | q1
          · rw [upd_same] at q1
            cases q1
          · exact na q1
        refine ⟨x, o, ex, ?_, fun ⟨j, d2, f2, q, n, s⟩ => ?_, by rw [upd_ne hx]; exact q3, q4, q5⟩
        · rcases q1 with q1 | q1
          · rw [upd_ne hx] at q1
            exact .inl q1
          · exact .inr (hide_own ⟨_, he⟩ q1)
        · rcases set_at q with ⟨h1, w, _⟩ | ⟨hj, w⟩
          · subst h1
            rw [hs] at s
            cases s
            exact hx rfl
          · exact q2 ⟨j, d2, f2, w, n, s⟩
  · cases e1
theorem fe_lcK {i : Nat} {elt tg : Expr} {x : Str} {px : Pos} {ifs : List Expr} {scope : Scope} {own : List (Str × Nat)} {ts : List Nat} {s : Gv} {t : Tv} {f : Vv} (hc : X.calm = true) (hN : X.N.Nodup) (hx : PE X (.Name x px) (tVar i)) (ok : BlkOk X.N X.env.scope scope own) (hts : ∀ i ∈ ts, i ∈ own.map (·.2))
    (hg : ∀ (s' : Shared) (H : Hp) (C : Addr) (cl : List (Str × Addr)) (fp : List Addr), PG (X.blk s' H scope (compEnvC scope cl C X.env) fp) tg (FG Rep X.K ts s))
    (ht : ∀ (s' : Shared) (H : Hp) (C : Addr) (cl : List (Str × Addr)) (fp : List Addr), PTs (X.blk s' H scope (compEnvC scope cl C X.env) fp) ifs (FT X.K t))
    (he : ∀ (s' : Shared) (H : Hp) (C : Addr) (cl : List (Str × Addr)) (fp : List Addr), PE (X.blk s' H scope (compEnvC scope cl C X.env) fp) elt (FV X.K f)) (hs : ∀ y, foldedSetIterable (.Name x px) X.env y = pure y := by intro _; rfl) :
    PE X (.ListComp elt [⟨tg, .Name x px, ifs, 0⟩] scope pos) (FE X.K (fLcK (own.map (·.2)) i s t f)) := pe_imp (pe_lock (pe_lc hc hN (pi_keys hx) ok hg ht he hs)) fun _ _ _ h => lcK_of hts h
end
end Fx
/-! Fx22: the module's constants: tuples, and dicts with text keys that are asked by get. -/
namespace Fx
open PySem PySem.Spec L2
def conAll (f : Value → D → Bool) : List Value → List D → Bool
  | [], [] => true
  | u :: us, d :: ds => f u d && conAll f us ds
  | _, _ => false
def conB (K : PySem.W.Frag) : Nat → Value → D → Bool
  | 0, _, _ => false
  | n + 1, u, d => match u, d with
    | .int i _, .int j => decide (i = j)
    | .str z _, .str y => decide (z = y)
    | .bool a, .bool b => decide (a = b)
    | .none, .none => true
    | .ref a, .tuple ds => match K.lookup a with
      | some ⟨.type c, none, .seq its _, _⟩ => decide (c = "tuple") && (decide (its.size ≤ sizeLine) && conAll (conB K n) its.toList ds)
      | _ => false
    | _, _ => false
theorem conAll_ok {K : PySem.W.Frag} {f : Value → D → Bool} (hf : ∀ u d, f u d = true → ∃ v, RelV v u ∧ ∀ G, Rep K G v d) : ∀ {us : List Value} {ds : List D}, conAll f us ds = true → ∃ vs, Vals vs us ∧ ∀ G, Reps K G vs ds
  | [], [], _ => ⟨[], .nil, fun _ => .nil⟩
  | [], _ :: _, h => by cases h
  | _ :: _, [], h => by cases h
  | u :: us, d :: ds, h => by
    obtain ⟨h1, h2⟩ := Bool.and_eq_true_iff.mp (show (f u d && conAll f us ds) = true from h)
    obtain ⟨v, r, q⟩ := hf u d h1
    obtain ⟨vs, rs, qs⟩ := conAll_ok hf h2
    exact ⟨v :: vs, .cons r rs, fun G => .cons (q G) (qs G)⟩
theorem conB_ok {K : PySem.W.Frag} : ∀ (n : Nat) (u : Value) (d : D), conB K n u d = true → ∃ v, RelV v u ∧ ∀ G, Rep K G v d
  | 0, _, _, h => by cases h
  | n + 1, u, d, h => by
    unfold conB at h
    split at h
    · rename_i i t j
      have e := of_decide_eq_true h
      subst e
      exact ⟨.int i, ⟨t, rfl⟩, fun _ => .int _⟩
    · rename_i z t y
      have e := of_decide_eq_true h
      subst e
      exact ⟨.str z, ⟨t, rfl⟩, fun _ => .str _⟩
    · rename_i a b
      have e := of_decide_eq_true h
      subst e
      exact ⟨.bl a, rfl, fun _ => .bl _⟩
    · exact ⟨.non, rfl, fun _ => .non⟩
    · rename_i a ds
      split at h
      · rename_i c its k sl q
        obtain ⟨h1, h2⟩ := Bool.and_eq_true_iff.mp h
        obtain ⟨h3, h4⟩ := Bool.and_eq_true_iff.mp h2
        obtain ⟨vs, rs, qs⟩ := conAll_ok (conB_ok n) h4
        have ec := of_decide_eq_true h1
        subst ec
        exact ⟨.ref a, rfl, fun G => .tup (.inr ⟨_, its, k, q, rfl, rfl, rfl, of_decide_eq_true h3, rs⟩) (qs G)⟩
      · cases h
    · cases h
/-- the constant's value -/
def KTup (K : PySem.W.Frag) (mg : Str → Option Value) (x : Str) (d : D) : Prop := ∃ u v, mg x = some u ∧ RelV v u ∧ ∀ G, Rep K G v d
theorem fv_globT {X : Cx} {x : Str} {d : D} {pos : Pos} (h : KTup X.K X.mg x d) (hg : Gl X x := by rfl) (hd : (x == ("__debug__" : Str)) = false := by decide) : PE X (.Name x pos) (FV X.K (fC d)) :=
  let ⟨_, _, h1, h2, h3⟩ := h
  fv_glob h1 h2 h3 hg hd
/-! ### dicts that are asked -/
def lookS (kvs : List (Str × D)) (z : Str) : Option D := (kvs.find? fun q => decide (q.1 = z)).map (·.2)
def KGet (K : PySem.W.Frag) (w : World) (mg : Str → Option Value) (x : Str) (kvs : List (Str × D)) : Prop := ∃ a es n, mg x = some (.ref a) ∧ KDict K w a es n ∧ ∀ z, (∃ d u v, lookS kvs z = some d ∧ PySem.W.nsIn K a z = some (some u) ∧ RelV v u ∧ ∀ G, Rep K G v d) ∨ (lookS kvs z = none ∧ PySem.W.nsIn K a z = some none)
def rKGet (a : Addr) (kvs : List (Str × D)) (K : PySem.W.Frag) : V → List V → Hp → VK → Prop := fun x xs H Q => ∃ z, x = .ref a ∧ xs = [.str z] ∧ ((∃ v d, lookS kvs z = some d ∧ (∀ G, Rep K G v d) ∧ Q v H) ∨ (lookS kvs z = none ∧ Q .non H))
def kgetD (kvs : List (Str × D)) : D → Option (D × Bool)
  | .str z => some ((lookS kvs z).getD .none, false)
  | _ => none
section
variable {X : Cx} {e : Expr} {es : List Expr}
theorem mt_kget {a : Addr} {kvs : List (Str × D)} {ds : Array DictEntry} {n : Nat} (D0 : KDict X.K X.w a ds n) (h : ∀ z, (∃ d u v, lookS kvs z = some d ∧ PySem.W.nsIn X.K a z = some (some u) ∧ RelV v u ∧ ∀ G, Rep X.K G v d) ∨ (lookS kvs z = none ∧ PySem.W.nsIn X.K a z = some none)) :
    MtR X "dict.get" (fun x xs H Q => ∃ z, x = .ref a ∧ xs = [.str z] ∧ ∀ v, (∀ d, lookS kvs z = some d → ∀ G, Rep X.K G v d) → (lookS kvs z = none → v = .non) → Q v H) := by
  intro pins s σ H x xs v us Q I rx rxs ⟨z, e1, e2, q⟩
  subst e1 e2
  cases rx
  obtain ⟨u, rfl, ru⟩ := rxs.one
  obtain ⟨t, rfl⟩ := ru
  have mo := PySem.W.mapOf_K (prog := X.prog) (w := X.w) I.kIn D0.at_ D0.lit
  refine call_meetsIn PySem.F.slot_dict_get mo.typeIs PySem.F.entry_dict_get (PySem.F.args_dict_get_2 _ _) (meets_dict_get (strKind X.prog X.w) a (strKind_is X.prog X.w z t) D0.low) ⟨_, mo, ?_⟩
  rcases h z with ⟨d, u, v, h1, h2, h3, h4⟩ | ⟨h1, h2⟩
  · rw [PySem.W.find_K D0.at_ h2]
    exact ⟨v, H, I.tok _, h3, q v (fun d' e => by rw [h1] at e; cases e; exact h4) fun e => by rw [h1] at e; cases e⟩
  · rw [PySem.W.find_K D0.at_ h2]
    exact ⟨.non, H, I.tok _, rfl, q .non (fun d' e => by rw [h1] at e; cases e) fun _ => rfl⟩
theorem fe_kget {x : Str} {kvs : List (Str × D)} {p : Ov} {px apos cpos : Pos} (h : KGet X.K X.w X.mg x kvs) (ha : PE X e (FO X.K p)) (hg : Gl X x := by rfl) (hd : (x == ("__debug__" : Str)) = false := by decide)
    (hbase : attributeBase (.Name x px) "get" X.env (eval (.Name x px) X.env) = eval (.Name x px) X.env := by rfl)
    (hfew : ((backTo cpos (starEach [e] X.env)).all (fun x => !x.1) && (backToKw cpos (keywordEach [] X.env)).all (fun x => x.1.isSome)
      && decide ([e].length + ([] : List Keyword).length + (if ([] : List Keyword).isEmpty then 0 else 1) < 30)) = true := by rfl)
    (hline : (apos.endLine == cpos.line) = true := by rfl) (hs : starEach [e] X.env = (false, eval e X.env) :: starEach [] X.env := by rfl) (hplain : (backTo cpos (starEach [] X.env)).any (·.1) = false := by rfl) :
    PE X (.Call (.Attribute (.Name x px) "get" apos) [e] [] cpos) (FE X.K (f1 p (kgetD kvs))) := by
  obtain ⟨a, ds, n, hm, D0, hk⟩ := h
  have ht : TyOk X "dict" (fun y _ => y = .ref a) := by
    intro pins σ H s y v I r e
    subst e
    obtain rfl : v = Value.ref a := r
    have mo := PySem.W.mapOf_K (prog := X.prog) (w := X.w) I.kIn D0.at_ D0.lit
    exact ⟨mo.typeIs, fun b e => by cases e; exact ⟨_, I.kIn a _ D0.at_, rfl⟩⟩
  refine pe_imp (pe_mG ht PySem.F.plainAttrs_dict PySem.F.slot_dict_get PySem.F.type_dict_get (mt_kget D0 hk) (pe_glob hg hm (v := .ref a) rfl hd) (pa_cons ha pa_nil hs) hbase hfew hline hs hplain) fun σ H Q ⟨G, en, d, b, en', S, e1, k⟩ => ?_
  obtain ⟨⟨y, en1⟩, p1, e2⟩ := Option.bind_eq_some_iff.mp e1
  obtain ⟨d0, p3, e4⟩ := Option.bind_eq_some_iff.mp e2
  obtain ⟨⟨z', b'⟩, p5, e6⟩ := Option.map_eq_some_iff.mp e4
  cases e6
  refine ⟨rfl, G, en, y, en1, S, p1, fun v G1 H1 T1 r1 => ?_⟩
  have u1 := r1.use T1.sr p3
  unfold kgetD at p5
  split at p5
  · rename_i z
    cases p5
    refine ⟨z, rfl, by rw [u1.str], fun v2 h1 h2 => k v2 G1 H1 T1 ?_⟩
    cases hl : lookS kvs z with
    | none =>
      rw [h2 hl]
      exact .non
    | some d => exact h1 d hl G1
  · cases p5
end
/-! ### in the head -/
inductive Cst where
  | tup (x : Str) (d : D)
  | dic (x : Str) (kvs : List (Str × D))
def Cst.ok (K : PySem.W.Frag) : Cst → Bool
  | .tup x d => match PySem.W.nsIn K mainGlobals x with
    | some (some u) => conB K 8 u d
    | _ => false
  | .dic x kvs => He.eqO (PySem.W.nsIn K mainGlobals x) (some (some (.ref (He.ga K x)))) && kvs.all fun q => match PySem.W.nsIn K (He.ga K x) q.1 with
    | some (some u) => conB K 8 u q.2
    | _ => false
def tabsOf (cs : List Cst) : List He.Tab := cs.filterMap fun c => match c with
  | .tup _ _ => none
  | .dic x kvs => some (fun K => He.ga K x, kvs.map (·.1))
abbrev AlC : Type := He.AlT × Bool
def obsC (fa : List He.Fa) (fn : List He.DefD) (cs : List Cst) (K : PySem.W.Frag) : AlC := (He.obsT fa fn (tabsOf cs) K, cs.all fun c => c.ok K)
def valC (fn : List He.DefD) (cs : List Cst) (w : World) : AlC := (He.valT fn (tabsOf cs) w, true)
def obsCG (n : Nat) (fa : List He.Fa) (fn : List He.DefD) (cs : List Cst) (g : Addr → Option Obj) : AlC := obsC fa fn cs (He.frG g (He.asD g n))
def SaysC (fa : List He.Fa) (fn : List He.DefD) (cs : List Cst) (w : World) (K : PySem.W.Frag) : Prop := obsC fa fn cs K = valC fn cs w
def hookC (n : Nat) (fa : List He.Fa) (fn : List He.DefD) (cs : List Cst) : PySem.W.Hook where
  α := AlC
  obs := fun s => obsCG n fa fn cs s.heap.get?
  val := fun w => valC fn cs w
  says := fun w h => ∃ K : PySem.W.Frag, K.In h ∧ SaysC fa fn cs w K
  of := fun _ _ e => ⟨_, He.frG_in, e⟩
  keeps := fun _ _ _ ⟨K, hK, c⟩ k => ⟨K, PySem.W.Frag.In.keeps hK k, c⟩
theorem obsCG_eq {n : Nat} {fa : List He.Fa} {fn : List He.DefD} {cs : List Cst} {g : Addr → Option Obj} {s : Shared} (h : ∀ a, g a = s.heap.get? a) : obsCG n fa fn cs g = (hookC n fa fn cs).obs s := by
  have e : g = s.heap.get? := funext h
  rw [e] <;> rfl
section
variable {fa : List He.Fa} {fn : List He.DefD} {cs : List Cst} {w : World} {K : PySem.W.Frag} {h : Heap} {mg : Str → Option Value}
theorem SaysC.t (c : SaysC fa fn cs w K) : He.SaysT fa fn (tabsOf cs) w K := congrArg (fun z : AlC => z.1) c
theorem SaysC.d (c : SaysC fa fn cs w K) : He.SaysD fa fn K := c.t.d
theorem SaysC.c_ (c : SaysC fa fn cs w K) (i : Nat) {x : Cst} (hx : cs[i]? = some x := by rfl) : x.ok K = true :=
  List.all_eq_true.mp (show (cs.all fun c => c.ok K) = true from congrArg (fun z : AlC => z.2) c) x (List.mem_of_getElem? hx)
theorem SaysC.tup (c : SaysC fa fn cs w K) (X : K.In h) (G : h.Ns mainGlobals mg) (i : Nat) {x : Str} {d : D} (hx : cs[i]? = some (.tup x d) := by rfl) : KTup K mg x d := by
  have k := c.c_ i hx
  unfold Cst.ok at k
  dsimp only at k
  split at k
  · rename_i u e
    obtain ⟨v, r, q⟩ := conB_ok 8 _ _ k
    exact ⟨u, v, PySem.W.mg_of X G e, r, q⟩
  · cases k
theorem dic_none {a : Addr} {ks : List Str} {z : Str} (hd : He.dicW K a = some (He.keysIn w.params ks)) (hz : z ∉ ks) : PySem.W.nsIn K a z = some none := by
  unfold He.dicW at hd
  split at hd
  · rename_i c es n sl q
    split at hd
    · have e := Option.some.inj hd
      unfold PySem.W.nsIn
      rw [q]
      dsimp only
      have go : ∀ (l : List DictEntry) (ks : List Str), z ∉ ks → l.map He.keyOf = He.keysIn w.params ks → l.find? (·.key.isStr z) = none ∧ l.any (·.refKey) = false := by
        intro l
        induction l with
        | nil => intro ks _ _; exact ⟨rfl, rfl⟩
        | cons e0 l ih =>
          intro ks hz e
          cases ks with
          | nil => cases e
          | cons k ks =>
            have e' : He.keyOf e0 :: l.map He.keyOf = some (k, PyData.keyHash w.params k) :: He.keysIn w.params ks := e
            injection e' with h1 h2
            obtain ⟨i1, i2⟩ := ih ks (fun q => hz (List.mem_cons_of_mem _ q)) h2
            have ek : ∃ t, e0.key = .str k t := by
              unfold He.keyOf at h1
              split at h1
              · rename_i x t hx
                have := Option.some.inj h1
                obtain ⟨h5, _⟩ := Prod.mk.inj this
                exact ⟨t, by rw [hx, h5]⟩
              · cases h1
            obtain ⟨t, ek⟩ := ek
            have nz : ¬ k = z := fun q => hz (q ▸ List.mem_cons_self ..)
            refine ⟨?_, ?_⟩
            · rw [List.find?_cons]
              have : e0.key.isStr z = false := by
                rw [ek]
                simp [Value.isStr, nz]
              rw [this]
              exact i1
            · rw [List.any_cons, i2, Bool.or_false]
              unfold DictEntry.refKey
              rw [ek]
      obtain ⟨g1, g2⟩ := go es.toList ks hz e
      rw [g1, g2]
      rfl
    · cases hd
  · cases hd
theorem SaysC.dic (c : SaysC fa fn cs w K) (X : K.In h) (G : h.Ns mainGlobals mg) (i j : Nat) {x : Str} {kvs : List (Str × D)} (hx : cs[i]? = some (.dic x kvs) := by rfl) (ht : (tabsOf cs)[j]? = some (fun K => He.ga K x, kvs.map (·.1)) := by rfl) : KGet K w mg x kvs := by
  obtain ⟨k1, k2⟩ := Bool.and_eq_true_iff.mp (show (He.eqO (PySem.W.nsIn K mainGlobals x) (some (some (.ref (He.ga K x)))) && kvs.all fun q => match PySem.W.nsIn K (He.ga K x) q.1 with
    | some (some u) => conB K 8 u q.2
    | _ => false) = true from c.c_ i hx)
  obtain ⟨es, n, D0⟩ := c.t.tab j ht
  refine ⟨He.ga K x, es, n, PySem.W.mg_of X G (He.eqO_ok k1), D0, fun z => ?_⟩
  have e : (tabsOf cs).map (fun t => He.dicW K (t.1 K)) = (tabsOf cs).map fun t => some (He.keysIn w.params t.2) := congrArg (fun z : He.AlT => z.2) c.t
  have e2 : ((tabsOf cs).map fun t => He.dicW K (t.1 K))[j]? = ((tabsOf cs).map fun t => some (He.keysIn w.params t.2))[j]? := by rw [e]
  rw [List.getElem?_map, List.getElem?_map, ht] at e2
  have hd : He.dicW K (He.ga K x) = some (He.keysIn w.params (kvs.map (·.1))) := Option.some.inj e2
  cases hl : kvs.find? fun q => decide (q.1 = z) with
  | none =>
    refine .inr ⟨by unfold lookS; rw [hl]; rfl, dic_none hd fun hz => ?_⟩
    obtain ⟨q, hq, e⟩ := List.mem_map.mp hz
    have := List.find?_eq_none.mp hl q hq
    simp [e] at this
  | some q =>
    have h1 := List.find?_some hl
    have h2 := List.all_eq_true.mp k2 q (List.mem_of_find?_eq_some hl)
    simp only [decide_eq_true_eq] at h1
    rw [h1] at h2
    split at h2
    · rename_i u eu
      obtain ⟨v, r, qq⟩ := conB_ok 8 _ _ h2
      exact .inl ⟨q.2, u, v, by unfold lookS; rw [hl]; rfl, eu, r, qq⟩
    · cases h2
end
end Fx
/-! Fx23: zip and enumerate of lists in a comprehension or a for; xs.insert(0, x); xs.index(x). -/
namespace Fx
open PySem PySem.Spec L2
def zipD (ds es : List D) : List D := (ds.zip es).map fun p => .tuple [p.1, p.2]
def enumD (i : Nat) : List D → List D
  | [] => []
  | d :: ds => .tuple [.int (i : Nat), d] :: enumD (i + 1) ds
def itZ (l : Lv) : Lv := fun en => (l en).bind fun x => match x.1 with
  | [.list ds, .list es] => some (zipD ds es, x.2)
  | _ => none
def itEn (l : Lv) : Lv := fun en => (l en).bind fun x => match x.1 with
  | [.list ds] => some (enumD 0 ds, x.2)
  | _ => none
theorem enumD_length : ∀ (ds : List D) (i : Nat), (enumD i ds).length = ds.length
  | [], _ => rfl
  | _ :: ds, i => by rw [enumD, List.length_cons, List.length_cons, enumD_length ds]
theorem enumD_get : ∀ (ds : List D) (i k : Nat), (enumD i ds)[k]? = (ds[k]?).map fun d => .tuple [.int ((i + k : Nat) : Int), d]
  | [], _, _ => by simp [enumD]
  | d :: ds, i, 0 => by simp [enumD]
  | d :: ds, i, k + 1 => by
    rw [enumD, List.getElem?_cons_succ, List.getElem?_cons_succ, enumD_get ds (i + 1) k]
    congr 2
    funext d
    have : i + 1 + k = i + (k + 1) := by omega
    rw [this]
section
variable {X : Cx} {K : PySem.W.Frag} {G H : Hp}
theorem repP_new {p : Addr} {xs : List V} {ds : List D} (s : Same G H) (hp : H p = none) (r : Reps K G xs ds) : ∃ G', New G H G' (upd H p (.tup xs)) ∧ RepP K G' (.ref p) (.tuple ds) := by
  have N := New.shd (o := .tup xs) s hp
  exact ⟨_, N, p, xs, ds, rfl, rfl, .inl (.inl upd_same), r.mono N.ext.g⟩
theorem jok_zip {a b : Addr} {xs ys : List V} {ds es : List D} {G0 : Hp} (ha : SqL K G0 a xs) (rx : Reps K G0 xs ds) (hb : SqL K G0 b ys) (ry : Reps K G0 ys es) : JOk RepP K (Itz K a b) G0 (zipD ds es) := fun i G H s1 s2 => by
  have qa := (s1.trans s2).seq ha
  have qb := (s1.trans s2).seq hb
  have la := rx.length
  have lb := ry.length
  have hl : (zipD ds es).length = min ds.length es.length := by simp [zipD]
  refine ⟨fun hi => ⟨xs, ys, qa, qb, by omega⟩, fun d hd => ?_⟩
  unfold zipD at hd
  rw [List.getElem?_map] at hd
  obtain ⟨⟨d1, d2⟩, e1, e2⟩ := Option.map_eq_some_iff.mp hd
  subst e2
  obtain ⟨h1, h2⟩ := List.getElem?_zip_eq_some.mp e1
  obtain ⟨v, v1, v2⟩ := rx.get' h1
  obtain ⟨w, w1, w2⟩ := ry.get' h2
  refine ⟨⟨xs, ys, v, w, qa, qb, v1, w1⟩, fun x H' ⟨T, x1, y1, e3, hT, e4, k1, k2⟩ => ?_⟩
  subst e3 e4
  have z1 := k1 xs qa
  have z2 := k2 ys qb
  rw [v1] at z1
  rw [w1] at z2
  cases z1
  cases z2
  exact repP_new s2 hT (.cons (v2.mono s1) (.cons (w2.mono s1) .nil))
theorem jok_enum {a : Addr} {xs : List V} {ds : List D} {G0 : Hp} (ha : SqL K G0 a xs) (rx : Reps K G0 xs ds) : JOk RepP K (Ite K a) G0 (enumD 0 ds) := fun i G H s1 s2 => by
  have qa := (s1.trans s2).seq ha
  have la := rx.length
  have hl := enumD_length ds 0
  refine ⟨fun hi => ⟨xs, qa, by omega⟩, fun d hd => ?_⟩
  rw [enumD_get] at hd
  obtain ⟨d1, e1, e2⟩ := Option.map_eq_some_iff.mp hd
  subst e2
  obtain ⟨v, v1, v2⟩ := rx.get' e1
  refine ⟨⟨xs, v, qa, v1⟩, fun x H' ⟨T, x1, e3, hT, e4, k1⟩ => ?_⟩
  subst e3 e4
  have z1 := k1 xs qa
  rw [v1] at z1
  cases z1
  rw [Nat.zero_add]
  exact repP_new s2 hT (.cons (.int _) (.cons (v2.mono s1) .nil))
theorem fi_zip {e e2 : Expr} {l : Lv} {p pos tpos : Pos} {elts : List Expr} {kk : Nat} (hm : X.mg "zip" = none) (ha : PA X [e, e2] (FL X.K l)) (hg : Gl X "zip" := by rfl)
    (hs : starEach [e, e2] X.env = (false, eval e X.env) :: starEach [e2] X.env := by rfl) (hpl : (backTo pos (starEach [e2] X.env)).any (·.1) = false := by rfl) :
    PI X (.Tuple elts kk tpos) (.Call (.Name "zip" p) [e, e2] [] pos) (FI RepP X.K (itZ l)) :=
  pi_imp (pi_zip hg hm ha hs hpl) fun σ H R ⟨G, en, ds, en', S, e1, k⟩ => by
    obtain ⟨⟨ds1, en1⟩, p1, e2⟩ := Option.bind_eq_some_iff.mp e1
    dsimp only at e2
    split at e2
    · cases e2
      refine ⟨G, en, _, _, S, p1, fun vs G' H' T r => ?_⟩
      cases r with
      | cons r1 r =>
        cases r with
        | cons r2 r =>
          cases r
          cases r1 with
          | lst h1 q1 =>
            cases r2 with
            | lst h2 q2 => exact ⟨_, _, _, _, rfl, T.sr.sub.seq h1, T.sr.sub.seq h2, k _ _ _ T (jok_zip h1 q1 h2 q2)⟩
    · cases e2
theorem fi_enum {e : Expr} {l : Lv} {p pos tpos : Pos} {elts : List Expr} {kk : Nat} (hm : X.mg "enumerate" = none) (ha : PA X [e] (FL X.K l)) (hg : Gl X "enumerate" := by rfl)
    (hs : starEach [e] X.env = [(false, eval e X.env)] := by rfl) :
    PI X (.Tuple elts kk tpos) (.Call (.Name "enumerate" p) [e] [] pos) (FI RepP X.K (itEn l)) :=
  pi_imp (pi_enum hg hm ha hs) fun σ H R ⟨G, en, ds, en', S, e1, k⟩ => by
    obtain ⟨⟨ds1, en1⟩, p1, e2⟩ := Option.bind_eq_some_iff.mp e1
    dsimp only at e2
    split at e2
    · cases e2
      refine ⟨G, en, _, _, S, p1, fun vs G' H' T r => ?_⟩
      cases r with
      | cons r1 r =>
        cases r
        cases r1 with
        | lst h1 q1 => exact ⟨_, _, rfl, T.sr.sub.seq h1, k _ _ _ T (jok_enum h1 q1)⟩
    · cases e2
/-! ### xs.insert(0, x) -/
def rIns0 : V → List V → Hp → VK → Prop := fun x vs H Q => ∃ (l : Addr) (xs : List V) (i : Int) (y : V), x = .ref l ∧ vs = [.int i, y] ∧ H l = some (.lst xs) ∧ xs.length < sizeLine ∧ 0 ≤ i ∧ i < 2 ^ 63 ∧
    Q .non (upd H l (.lst (xs.take i.toNat ++ [y] ++ xs.drop i.toNat)))
theorem mt_ins : MtR X "list.insert" rIns0 := mt_insert
def mIns : D → List D → Option (D × Bool × D)
  | .list ds, [.int i, d] => if i = 0 ∧ ds.length < sizeLine then some (.none, false, .list (d :: ds)) else none
  | _, _ => none
theorem om_ins : OpM K rIns0 mIns := fun l o d xs ds z b d' G H Q s g h r rs e k => by
  unfold mIns at e
  split at e
  · obtain ⟨hh, e3⟩ := ite_some e
    obtain ⟨h0, hl⟩ := hh
    cases e3
    subst h0
    cases r with
    | lst q =>
      cases rs with
      | cons r1 r2 =>
        cases r1
        cases r2 with
        | cons r3 r4 =>
          cases r4
          refine ⟨l, _, 0, _, rfl, rfl, h, by rw [q.length]; exact hl, by decide, by decide, ?_⟩
          have := opM_upd (o' := .lst (_ :: _)) s g h (.lst (.cons r3 q)) .non k
          simpa using this
  · cases e
/-! ### xs.index(x), x is there -/
def dIdx : D → List D → Option (D × Bool)
  | .list ds, [d] => if (SeqAt.shaped d && SeqAt.shaped (.list ds)) = true then (ds.findIdx? fun z => PyData.eqv z d).map fun j => (.int (j : Nat), false) else none
  | _, _ => none
theorem or_idx : OpMR K (rIndexD K) dIdx := fun x d xs ds z b G H Q s u us hg k => by
  unfold dIdx at hg
  split at hg
  · rename_i es e
    obtain ⟨hl, hg⟩ := ite_some hg
    obtain ⟨h1, h2⟩ := Bool.and_eq_true_iff.mp hl
    obtain ⟨j, e1, e2⟩ := Option.map_eq_some_iff.mp hg
    cases e2
    obtain ⟨y, rfl, uy⟩ := us.one
    have dl := u.dp s (SeqAt.canLay_of_shaped h2)
    obtain ⟨a, ys, rfl, _, _⟩ := u.list s
    rw [List.findIdx?_eq_some_iff_getElem] at e1
    obtain ⟨hj, hz, hno⟩ := e1
    refine ⟨a, y, e, es, j, es[j], rfl, rfl, dl, uy.dp s (SeqAt.canLay_of_shaped h1), h2, h1, List.getElem?_eq_getElem hj, hz, fun m z' hm hz' => ?_, k _ G H (New.refl s) (Fresh.sh (.int _))⟩
    obtain ⟨hm2, rfl⟩ := List.getElem?_eq_some_iff.mp hz'
    have := hno m hm
    simpa using this
  · cases hg
end
end Fx
/-! Fx24: texts by their order. -/
namespace Fx
open PySem PySem.Spec L2
def dLeS : D → D → Option (D × Bool)
  | .str a, .str b => some (.bool (!decide (b.cps.toList < a.cps.toList)), false)
  | _, _ => none
def dLtS : D → D → Option (D × Bool)
  | .str a, .str b => some (.bool (decide (a.cps.toList < b.cps.toList)), false)
  | _, _ => none
theorem o2_leS {K : PySem.W.Frag} : Op2 K (fun x y H Q => ∃ i j, x = .str i ∧ y = .str j ∧ Q (.bl (!decide (j.cps.toList < i.cps.toList))) H) dLeS := fun x y d e z b G H Q s u1 u2 hg k => by
  unfold dLeS at hg
  split at hg
  · cases hg
    exact ⟨_, _, u1.str, u2.str, k _ G H (New.refl s) (Fresh.sh (.bl _))⟩
  · cases hg
theorem o2_ltS {K : PySem.W.Frag} : Op2 K (fun x y H Q => ∃ i j, x = .str i ∧ y = .str j ∧ Q (.bl (decide (i.cps.toList < j.cps.toList))) H) dLtS := fun x y d e z b G H Q s u1 u2 hg k => by
  unfold dLtS at hg
  split at hg
  · cases hg
    exact ⟨_, _, u1.str, u2.str, k _ G H (New.refl s) (Fresh.sh (.bl _))⟩
  · cases hg
end Fx
/-! Fx25: a call whose answer is flat: what it is given is lent for the call alone. -/
namespace Fx
open PySem PySem.Spec L2
def flatD : D → Bool
  | .none => true
  | .bool _ => true
  | .int _ => true
  | .str _ => true
  | _ => false
section
variable {K : PySem.W.Frag} {G G' H H' : Hp}
theorem RepO.here {o : HO} {d : D} {a : Addr} (h : H a = some o) (r : RepO K H o d) : Rep K H (.ref a) d := by
  cases r with
  | lst r => exact .lst (.inl (.inl h)) r
  | dK r => exact .dct (.inl h) r
theorem Use.rep {v : V} {d : D} (s : Same G H) (u : Use K G H v d) : Rep K H v d := by
  rcases u with u | ⟨a, o, rfl, h, r⟩
  · exact u.mono s
  · exact RepO.here h (r.mono s)
theorem Uses.reps (s : Same G H) : ∀ {vs : List V} {ds : List D}, Uses K G H vs ds → Reps K H vs ds
  | _, _, .nil => .nil
  | _, _, .cons u r => .cons (u.rep s) (Uses.reps s r)
theorem Rep.flat {v : V} {d : D} (r : Rep K G v d) (h : flatD d = true) : Rep K G' v d := by
  cases r with
  | non => exact .non
  | bl b => exact .bl b
  | int i => exact .int i
  | str x => exact .str x
  | tup _ _ => cases h
  | lst _ _ => cases h
  | dct _ _ => cases h
theorem Fresh.flat {v : V} {d : D} {b : Bool} {H1 : Hp} (r : Fresh K H G' H1 v d b) (h : flatD d = true) : Rep K G v d := by
  cases b with
  | false => exact Rep.flat (show Rep K G' v d from r) h
  | true =>
    obtain ⟨a, o, _, _, _, _, _, ro⟩ := (show ∃ a o, v = .ref a ∧ _ from r)
    cases ro <;> cases h
theorem New.back (s : Same G H) (N : New H H G' H') : New G H G H' :=
  ⟨⟨Same.refl _, N.ext.h, fun _ _ _ _ g => g, N.ext.t⟩, fun b o e => N.ext.h b o (s b o e) (fun z => z)⟩
end
def fCallB (np : Nat) (a : Av) (F : List D → Option (D × Bool)) : Ev := fun en => (a en).bind fun x => (lates x.2 x.1).bind fun ds => if ds.length = np then (F ds).bind fun z => if flatD z.1 = true then some (z.1, false, x.2) else none else none
section
variable {X : Cx} {k j np : Nat} {ps : List Str} {x : Str} {p pos : Pos} {e : Expr} {es : List Expr}
theorem fe_callLn {a : Av} {F0 : List D → Option (D × Bool)} (o : Ow X.prog X.w X.K X.mg X.base j x ps (sp0 X.K np F0)) (hr : Room k X.A) (ha : PA X (e :: es) (FA X.K a)) (hjk : j ≤ k := by decide)
    (hg : Gl X x := by rfl) (hdb : (x == ("__debug__" : Str)) = false := by decide) (he : starEach (e :: es) X.env = (false, eval e X.env) :: starEach es X.env := by rfl) (hpl : (backTo pos (starEach es X.env)).any (·.1) = false := by rfl) : PE X (.Call (.Name x p) (e :: es) [] pos) (FE X.K (fCallB np a F0)) :=
  let ⟨f, fd, hm, hk, hb, F⟩ := o
  pe_imp (pe_call F (hr.mono hjk) hg hm hk hb .nil (E := fun _ _ _ => False) (fun _ _ _ _ _ _ _ z => z.elim) ha hdb he hpl) fun σ H Q ⟨G, en, d, b, en', S, e1, k⟩ => by
    obtain ⟨⟨hs, en1⟩, p1, e2⟩ := Option.bind_eq_some_iff.mp e1
    obtain ⟨ds, p2, e3⟩ := Option.bind_eq_some_iff.mp e2
    obtain ⟨hl, e4⟩ := ite_some e3
    obtain ⟨⟨z, b'⟩, p5, e6⟩ := Option.bind_eq_some_iff.mp e4
    obtain ⟨hf, e7⟩ := ite_some e6
    cases e7
    refine ⟨G, en, hs, en1, S, p1, fun vs G1 H1 T r => ?_⟩
    have u := r.uses T.sr p2
    exact ⟨H1, ds, _, _, Same.refl _, by rw [List.append_nil]; exact u.reps T.sr.sub, hl, p5, fun v G' H' N F => k v G1 H' (T.trans ((N.back T.sr.sub).step T.sr)) (Res.sh (F.flat hf))⟩
end
end Fx
/-! Fx26: a call that is lent what it is given; its answer holds no list and no dict, or is a new one of such. -/
namespace Fx
open PySem PySem.Spec L2
mutual
def tupD : D → Bool
  | .none => true
  | .bool _ => true
  | .int _ => true
  | .str _ => true
  | .tuple ds => tupDs ds
  | _ => false
def tupDs : List D → Bool
  | [] => true
  | d :: ds => tupD d && tupDs ds
end
def okR : D → Bool → Bool
  | .list ds, true => tupDs ds
  | .dict es, true => es.all fun e => tupD e.2
  | d, _ => tupD d
section
variable {K : PySem.W.Frag} {G G' G2 H H' : Hp}
/-- what is lent: an object that is not shared -/
def Lent (G H : Hp) (vs : List V) (a : Addr) : Prop := V.ref a ∈ vs ∧ G a = none ∧ ∃ o d, H a = some o ∧ (∃ K G0, RepO K G0 o d)
open Classical in
noncomputable def plusL (G H : Hp) (vs : List V) : Hp := fun a => if Lent G H vs a then H a else G a
open Classical in
noncomputable def lessL (G H : Hp) (vs : List V) (G' : Hp) : Hp := fun a => if Lent G H vs a then none else G' a
theorem plusL_same {vs : List V} : Same G (plusL G H vs) := fun b u e => by
  unfold plusL
  rw [if_neg fun h => by rw [h.2.1] at e; cases e]
  exact e
theorem plusL_sub {vs : List V} (s : Same G H) : Same (plusL G H vs) H := fun b u e => by
  unfold plusL at e
  split at e
  · exact e
  · exact s b u e
theorem use_lent {vs : List V} {v : V} {d : D} (s : Same G H) (hv : v ∈ vs) (u : Use K G H v d) : Rep K (plusL G H vs) v d := by
  rcases u with u | ⟨a, o, rfl, h, r⟩
  · exact u.mono plusL_same
  · have e : plusL G H vs a = some o := by
      unfold plusL
      by_cases hl : Lent G H vs a
      · rw [if_pos hl]; exact h
      · rw [if_neg hl]
        cases hg : G a with
        | none => exact absurd ⟨hv, hg, o, d, h, K, G, r⟩ hl
        | some u =>
          have := s a u hg
          rw [h] at this
          exact this.symm
    exact (r.mono plusL_same).rep e
theorem uses_lent {ws : List V} (s : Same G H) : ∀ {vs : List V} {ds : List D}, (∀ v ∈ vs, v ∈ ws) → Uses K G H vs ds → Reps K (plusL G H ws) vs ds
  | _, _, _, .nil => .nil
  | _, _, hw, .cons u r => .cons (use_lent s (hw _ (List.mem_cons_self ..)) u) (uses_lent s (fun v hv => hw v (List.mem_cons_of_mem _ hv)) r)
theorem lent_not {vs : List V} {a : Addr} {o : Obj} {xs : List V} (s : Same (plusL G H vs) G') (e : G' a = some (.frz o (.tup xs))) : ¬ Lent G H vs a := fun h => by
  obtain ⟨_, _, u, d, hu, K, G0, r⟩ := id h
  have e1 : plusL G H vs a = some u := by
    unfold plusL
    rw [if_pos h]
    exact hu
  have e2 := s a u e1
  rw [e] at e2
  cases e2
  cases r
mutual
theorem rep_less {vs : List V} (s : Same (plusL G H vs) G') : ∀ {v : V} {d : D}, tupD d = true → Rep K G' v d → Rep K (lessL G H vs G') v d
  | _, _, _, .non => .non
  | _, _, _, .bl b => .bl b
  | _, _, _, .int i => .int i
  | _, _, _, .str x => .str x
  | _, .tuple ds, h, .tup t r => .tup (by
      rcases t with ⟨o, e, hd⟩ | t
      · refine .inl ⟨o, ?_, hd⟩
        unfold lessL
        rw [if_neg (lent_not s e)]
        exact e
      · exact .inr t) (reps_less s (by unfold tupD at h; exact h) r)
  | _, _, h, .lst _ _ => by simp [tupD] at h
  | _, _, h, .dct _ _ => by simp [tupD] at h
theorem reps_less {vs : List V} (s : Same (plusL G H vs) G') : ∀ {ws : List V} {ds : List D}, tupDs ds = true → Reps K G' ws ds → Reps K (lessL G H vs G') ws ds
  | _, _, _, .nil => .nil
  | _, _, h, .cons a b => by
    rw [tupDs, Bool.and_eq_true] at h
    exact .cons (rep_less s h.1 a) (reps_less s h.2 b)
end
theorem repKV_less {vs : List V} (s : Same (plusL G H vs) G') : ∀ {ws : List (Key × V)} {es : List (D × D)}, (es.all fun e => tupD e.2) = true → RepKV K G' ws es → RepKV K (lessL G H vs G') ws es
  | _, _, _, .nil => .nil
  | _, _, h, .cons a b => by
    rw [List.all_cons, Bool.and_eq_true] at h
    exact .cons (rep_less s h.1 a) (repKV_less s h.2 b)
theorem new_less {vs : List V} (s : Same G H) (N : New (plusL G H vs) H G' H') : New G H (lessL G H vs G') H' := by
  refine ⟨⟨fun b u e => ?_, N.ext.h, fun b u e n g => ?_, N.ext.t⟩, fun b u e => ?_⟩
  · have hl : ¬ Lent G H vs b := fun h => by rw [h.2.1] at e; cases e
    unfold lessL
    rw [if_neg hl]
    exact N.ext.g b u (plusL_same b u e)
  · unfold lessL
    by_cases hl : Lent G H vs b
    · rw [if_pos hl]
    · rw [if_neg hl]
      refine N.ext.n b u e n ?_
      unfold plusL
      rw [if_neg hl]
      exact g
  · unfold lessL at e
    split at e
    · cases e
    · exact N.sub b u e
theorem fresh_less {vs : List V} {v : V} {d : D} {b : Bool} (s : Same (plusL G H vs) G') (h : okR d b = true) (r : Fresh K H G' H' v d b) : Fresh K H (lessL G H vs G') H' v d b := by
  cases b with
  | false =>
    have ht : tupD d = true := by
      cases d <;> simpa [okR] using h
    exact rep_less s ht (show Rep K G' v d from r)
  | true =>
    obtain ⟨a, o, e, h1, h2, h3, h4, h5⟩ := (show ∃ a o, v = .ref a ∧ _ from r)
    refine ⟨a, o, e, h1, h2, h3, ?_, ?_⟩
    · unfold lessL
      split
      · rfl
      · exact h4
    · cases h5 with
      | lst q => exact .lst (reps_less s (by simpa [okR] using h) q)
      | dK q => exact .dK (repKV_less s (by simpa [okR] using h) q)
end
def fCallL (np : Nat) (a : Av) (F : List D → Option (D × Bool)) : Ev := fun en => (a en).bind fun x => (lates x.2 x.1).bind fun ds => if ds.length = np then (F ds).bind fun z => if okR z.1 z.2 = true then some (z.1, z.2, x.2) else none else none
section
variable {X : Cx} {k j np : Nat} {ps : List Str} {x : Str} {p pos : Pos} {e : Expr} {es : List Expr}
theorem fe_callLt {a : Av} {F0 : List D → Option (D × Bool)} (o : Ow X.prog X.w X.K X.mg X.base j x ps (sp0 X.K np F0)) (hr : Room k X.A) (ha : PA X (e :: es) (FA X.K a)) (hjk : j ≤ k := by decide)
    (hg : Gl X x := by rfl) (hdb : (x == ("__debug__" : Str)) = false := by decide) (he : starEach (e :: es) X.env = (false, eval e X.env) :: starEach es X.env := by rfl) (hpl : (backTo pos (starEach es X.env)).any (·.1) = false := by rfl) : PE X (.Call (.Name x p) (e :: es) [] pos) (FE X.K (fCallL np a F0)) :=
  let ⟨f, fd, hm, hk, hb, F⟩ := o
  pe_imp (pe_call F (hr.mono hjk) hg hm hk hb .nil (E := fun _ _ _ => False) (fun _ _ _ _ _ _ _ z => z.elim) ha hdb he hpl) fun σ H Q ⟨G, en, d, b, en', S, e1, k⟩ => by
    obtain ⟨⟨hs, en1⟩, p1, e2⟩ := Option.bind_eq_some_iff.mp e1
    obtain ⟨ds, p2, e3⟩ := Option.bind_eq_some_iff.mp e2
    obtain ⟨hl, e4⟩ := ite_some e3
    obtain ⟨⟨z, b'⟩, p5, e6⟩ := Option.bind_eq_some_iff.mp e4
    obtain ⟨hf, e7⟩ := ite_some e6
    cases e7
    refine ⟨G, en, hs, en1, S, p1, fun vs G1 H1 T r => ?_⟩
    have u := r.uses T.sr p2
    refine ⟨plusL G1 H1 vs, ds, _, _, plusL_sub T.sr.sub, by rw [List.append_nil]; exact uses_lent T.sr.sub (fun _ h => h) u, hl, p5, fun v G' H' N F => ?_⟩
    exact k v _ H' (T.trans ((new_less T.sr.sub N).step T.sr)) (Fresh.res' T (fresh_less N.ext.g hf F))
end
end Fx
/-! Fx27: t[::-1] of a tuple. -/
namespace HT
open PySem PySem.Spec PyProof.Rows
section
variable {prog : Program} {w : World} {A : Around} {E : Value → Shared → Prop} {s : Shared}
theorem applied_rev {sl : Addr} {vl vu vs : Value} {n : Nat} {R : Int × Int × Nat → Shared → Prop} (hs : s.heap.IsSliceOf sl vl vu vs) (pl : IsPart vl none) (pu : IsPart vu none) (ps : IsPart vs (some (-1)))
    (q : R ((n : Int) - 1, -1, n) s) : wpAny (model prog w) A (Builtin.Slice.sliceApplied (.ref sl) (pure (n : Int))) R E s := by
  obtain ⟨ob, h1, h2, h3⟩ := id hs
  unfold Builtin.Slice.sliceApplied Builtin.Slice.sliceFields
  refine wpAny_bind (wpAny_bind (wpAny_field h1 h3 (x := vl) rfl (wpAny_bind (wpAny_field h1 h3 (x := vu) rfl (wpAny_bind (wpAny_field h1 h3 (x := vs) rfl (wpAny_pure ?_)))))))
  refine wpAny_bind (slicePart_ ps ?_)
  show wpAny _ _ (if ((-1 : Int) == 0) = true then _ else _) _ _ s
  rw [if_neg (by decide)]
  refine wpAny_bind (slicePart_ pl (wpAny_bind (slicePart_ pu (wpAny_bind (wpAny_pure ?_)))))
  have e1 : Builtin.Slice.sliceAdjust none none (-1) (n : Int) = ((n : Int) - 1, -1) := by
    unfold Builtin.Slice.sliceAdjust
    simp
  have e2 : Builtin.Slice.slicePlaces ((n : Int) - 1) (-1) (-1) = n := by
    unfold Builtin.Slice.slicePlaces
    simp
    omega
  show wpAny _ _ (match Builtin.Slice.sliceAdjust none none (-1) (n : Int) with | (lo, hi) => pure (lo, (-1 : Int), Builtin.Slice.slicePlaces lo hi (-1))) _ _ s
  rw [e1]
  show wpAny _ _ (pure ((n : Int) - 1, (-1 : Int), Builtin.Slice.slicePlaces ((n : Int) - 1) (-1) (-1))) _ _ s
  rw [e2]
  exact wpAny_pure q
theorem fm_congr {α β : Type} {f g : α → Option β} : ∀ {l : List α}, (∀ x ∈ l, f x = g x) → l.filterMap f = l.filterMap g
  | [], _ => rfl
  | x :: l, h => by rw [List.filterMap_cons, List.filterMap_cons, h x (List.mem_cons_self ..), fm_congr fun y hy => h y (List.mem_cons_of_mem _ hy)]
theorem pick_rev (xs : Array Value) : ((List.range xs.size).filterMap fun (k : Nat) => xs[((xs.size : Int) - 1 + (k : Int) * (-1)).toNat]?).toArray = xs.toList.reverse.toArray := by
  congr 1
  have e : (List.range xs.size).filterMap (fun (k : Nat) => xs[((xs.size : Int) - 1 + (k : Int) * (-1)).toNat]?) = ((List.range xs.size).map fun k => xs.size - 1 - k).filterMap (xs[·]?) := by
    rw [List.filterMap_map]
    refine fm_congr fun k hk => ?_
    have := List.mem_range.mp hk
    have e2 : ((xs.size : Int) - 1 + (k : Int) * (-1)).toNat = xs.size - 1 - k := by omega
    simp only [Function.comp, e2]
  rw [e, PySem.W.krv_range, List.filterMap_reverse, PySem.W.krv_all]
theorem item_rev {t sl : Addr} {xs : Array Value} {vl vu vs : Value} {R : Value → Shared → Prop} (ht : IsTup s.heap t xs) (hs : s.heap.IsSliceOf sl vl vu vs) (pl : IsPart vl none) (pu : IsPart vu none) (ps : IsPart vs (some (-1)))
    (q : R (.ref s.heap.objs.size) { s with heap := s.heap.push { cls := .type "tuple", data := .seq xs.toList.reverse.toArray } }) (hz : xs.size ≤ sizeLine) : wpAny (model prog w) A (getItem (.ref t) (.ref sl)) R E s := by
  have ok : sizeOk (.seq xs.toList.reverse.toArray) := by
    show xs.toList.reverse.toArray.size ≤ sizeLine
    rw [List.size_toArray, List.length_reverse, Array.length_toList]
    exact hz
  obtain ⟨ob, h1, h2, _⟩ := id hs
  have ty : s.TypeIs (.ref sl) "slice" := ⟨ob, h1, h2⟩
  unfold getItem
  with_reducible refine wpAny_holding ?_
  refine wpAny_bind (wpAny_sequenceKey ht.typeIs (by decide) ?_)
  refine wpAny_bind (wpAny_callSpecial?_slot (name := Str.ofString "__getitem__") ht.typeIs PyProof.Rows.slot_tuple_getitem (wpAny_call_entry PyProof.Rows.slot_tuple_getitem ht.typeIs entry_tuple_getitem ?_ (args_tuple_getitem _ _)))
  show wpAny _ _ (Builtin.Tuple.tupleItemsOf (.ref t) >>= _) _ _ s
  refine wpAny_bind (tupleItemsOf_ ht (wpAny_bind (wpAny_typeOf ty ?_)))
  rw [if_pos (by decide)]
  refine wpAny_bind (applied_rev hs pl pu ps ?_)
  show wpAny _ _ (if (((xs.size : Int) - 1) == 0 && ((-1 : Int) == 1) && xs.size == xs.size) = true then _ else _) _ _ s
  rw [if_neg (by simp), pick_rev]
  first
    | exact wpAny_bind (m := Builtin.Tuple.tupleExact _) (wpAny_newObj_type (wpAny_pure ⟨_, rfl, wpAny_pure q⟩) ok)
    | exact wpAny_bind (m := Builtin.Tuple.tupleExact _) (wpAny_newObj_type (wpAny_bind (wpAny_pure (wpAny_pure ⟨_, rfl, wpAny_pure q⟩))) ok)
    | exact wpAny_bind (wpAny_bind (m := Builtin.Tuple.tupleExact _) (wpAny_newObj_type (wpAny_pure (wpAny_pure ⟨_, rfl, wpAny_pure q⟩)) ok))
    | exact wpAny_bind (wpAny_bind (m := Builtin.Tuple.tupleExact _) (wpAny_newObj_type (wpAny_pure ⟨_, rfl, wpAny_pure q⟩) ok))
end
end HT
namespace Fx
open PySem PySem.Spec L2
open PyProof.Rows (IntsAre Subscript_ tail_any)
section
variable {X : Cx} {e : Expr} {p1 p2 p3 pos : Pos}
/-- l[::-1], a list or a tuple -/
def rRevA (K : PySem.W.Frag) : V → Hp → VK → Prop := fun x H Q => rRev K x H Q ∨ ∃ a xs, x = .ref a ∧ SqT K H a xs ∧ ∀ p o, H p = none → o.dict = none → Q (.ref p) (upd H p (.frz o (.tup xs.reverse)))
theorem pe_revA {te : TE} {k : Nat} (he : PE X e te) : PE X (.Subscript e (.Slice none none (some (.UnaryOp .USub (.Constant (.int 1) k p1) p2)) p3) pos) (fun σ H Q => te σ H fun x H1 => rRevA X.K x H1 Q) := by
  refine ⟨fun pins s σ H Q I h => ?_⟩
  refine Subscript_ (thn (he.run pins s σ H _ I h) fun v s1 ⟨x, H1, I1, r1, q1⟩ => ?_)
  have hst : PO X (some (.UnaryOp .USub (.Constant (.int 1) k p1) p2)) (tPart (tUn (rU fun i => .int (-i)) (tC (.int 1)))) := po_some (pe_un un_neg pe_int)
  refine wpAny_Slice (thn (po_none.run pins s1 σ H1 (fun o H2 => o = none ∧ H2 = H1) I1 ⟨rfl, rfl⟩) fun vl s2 ⟨l, H2, I2, pl, el, e2⟩ => ?_)
  subst el e2
  refine thn (po_none.run pins s2 σ H2 (fun o H3 => o = none ∧ H3 = H2) I2 ⟨rfl, rfl⟩) fun vu s3 ⟨u, H3, I3, pu, eu, e3⟩ => ?_
  subst eu e3
  refine thn (hst.run pins s3 σ H3 (fun o H4 => o = some (-1) ∧ H4 = H3) I3 ⟨1, rfl, -1, rfl, rfl, rfl⟩) fun vs s4 ⟨o, H4, I4, ps, eo, e4⟩ => ?_
  subst eo e4
  have I5 : Inv X pins σ H4 { s4 with heap := s4.heap.push { cls := .type "slice", data := .fields #[vl, vu, vs] } } := I4.kept (t' := s4.toks) fun b ob q => Heap.get?_push_of_some _ q
  rcases q1 with ⟨a, xs, ex, hx, q⟩ | ⟨a, xs, ex, hx, q⟩
  · subst ex
    cases r1
    obtain ⟨its, r, ht, hz⟩ := I5.list hx
    have hlen := r.length
    refine tail_any (ops := [.ref a, .ref s4.heap.objs.size]) ht.isList.typeIs (PySem.slot_list_getitem.lookup) ?_ (by with_unfolding_all rfl)
    refine wpAny_getItem_list_slice ht.isList (Heap.IsSliceOf.new _ vl vu vs) pl pu ps (by decide) ?_ (by rw [List.size_toArray]; omega)
    rw [PySem.W.krv_pick]
    exact ⟨.ref _, _, I5.laid (t' := s4.toks) (o := .lst xs.reverse) (fun b ob q => Heap.get?_push_of_some _ q) (Nat.le_refl _) ⟨by rw [List.length_reverse]; exact hz, _, 0, r.reverse, Heap.get?_push_size _ rfl⟩, rfl, q _ (I5.hok.fresh (Nat.le_refl _))⟩
  · subst ex
    cases r1
    obtain ⟨its, r, ht, hz⟩ := I5.tuple hx
    have hlen := r.length
    refine tail_any (ops := [.ref a, .ref s4.heap.objs.size]) ht.typeIs (PyProof.Rows.slot_tuple_getitem.lookup) ?_ (by with_unfolding_all rfl)
    refine HT.item_rev ht (Heap.IsSliceOf.new _ vl vu vs) pl pu ps ?_ (by rw [List.size_toArray]; omega)
    have rr : Vals xs.reverse its.toArray.toList.reverse := by simpa using r.reverse
    exact ⟨.ref _, _, inv_tupZ I5 rr (by rw [List.length_reverse]; exact hz), rfl, q _ _ (I5.hok.fresh (Nat.le_refl _)) rfl⟩
def dRevA : D → Option (D × Bool)
  | .list ds => some (.list ds.reverse, true)
  | .tuple ds => some (.tuple ds.reverse, false)
  | _ => none
theorem o1_revA {K : PySem.W.Frag} : Op1 K (rRevA K) dRevA := fun x d z b G H Q s u hg k => by
  unfold dRevA at hg
  split at hg
  · cases hg
    obtain ⟨a, xs, rfl, h, r⟩ := u.list s
    exact .inl ⟨a, xs, rfl, h, fun p hp => k _ _ _ (New.own s hp) (Fresh.new s hp (.lst (reps_rev r)))⟩
  · cases hg
    obtain ⟨a, xs, rfl, h, r⟩ := u.tuple s
    refine .inr ⟨a, xs, rfl, h, fun p o hp ho => ?_⟩
    have N := New.shd (o := .frz o (.tup xs.reverse)) s hp
    exact k _ _ _ N (Fresh.sh (.tup (.inl ⟨o, upd_same, ho⟩) ((reps_rev r).mono N.ext.g)))
  · cases hg
theorem fe_revA {p : Ov} {k : Nat} (ha : PE X e (FO X.K p)) : PE X (.Subscript e (.Slice none none (some (.UnaryOp .USub (.Constant (.int 1) k p1) p2)) p3) pos) (FE X.K (f1 p dRevA)) :=
  pe_imp (pe_revA ha) fun _ _ _ h => t1_of (r := rRevA X.K) o1_revA h
end
end Fx
/-! Fx28: comprehensions over a list of this frame, which stays this frame's. -/
namespace Fx
open PySem PySem.Spec L2
def fLcO (vs : List Nat) (i : Nat) (s : Gv) (t : Tv) (f : Vv) : Ev := fun en => match en[i]? with
  | some (some (.list es, .own)) => (lcL vs s t f es (wipeE (en.set i none) vs)).bind fun y => if y.1.length ≤ sizeLine then some (.list y.1, true, (backE (en.set i none) y.2 vs).set i (some (.list es, .own))) else none
  | some (some (.list es, .sh)) => (lcL vs s t f es (wipeE en vs)).bind fun y => if y.1.length ≤ sizeLine then some (.list y.1, true, backE en y.2 vs) else none
  | _ => none
section
variable {K : PySem.W.Frag} {G H G1 H1 : Hp} {en : En} {σ : St} {i : Nat}
theorem jok2_list {a : Addr} {xs : List V} {ds : List D} {G0 H0 : Hp} {O : Addr → Prop} (h : ∀ H, Same G0 H → (∀ b o, H0 b = some o → ¬ O b → H b = some o) → SqL K H a xs) (r : Reps K G0 xs ds) : JOk2 Rep K (Itl K a) G0 H0 O ds := fun i G H s1 s2 pr => by
  have hq := h H (s1.trans s2) pr
  have hl := r.length
  refine ⟨fun hi => ⟨xs, hq, by omega⟩, fun d hd => ?_⟩
  obtain ⟨v, h1, h2⟩ := r.get' hd
  refine ⟨⟨xs, v, hq, h1⟩, fun x H' ⟨e, k⟩ => ?_⟩
  subst e
  have := k xs hq
  rw [h1] at this
  cases this
  exact ⟨G, New.refl s2, h2.mono s1⟩
theorem upd_id {a : Addr} {o : HO} (h : H a = some o) : upd H a o = H := funext fun b => by
  by_cases hb : b = a
  · rw [hb, upd_same, h]
  · rw [upd_ne hb]
theorem lcO_of {vs ts : List Nat} {s : Gv} {t : Tv} {f : Vv} (hts : ∀ i ∈ ts, i ∈ vs) {Q : VK} (h : FE K (fLcO vs i s t f) σ H Q) : tLc (iList K (tVar i)) (FG Rep K ts s) (FT K t) (FV K f) vs σ H Q := by
  obtain ⟨G, en, z, zb, en', S, e1, k⟩ := h
  unfold fLcO at e1
  split at e1
  · rename_i es he
    obtain ⟨⟨rs, en2⟩, p2, e2⟩ := Option.bind_eq_some_iff.mp e1
    obtain ⟨hz, e3⟩ := ite_some e2
    cases e3
    obtain ⟨a, o, hs, hG, hH, ro⟩ := S.own i _ .own he (fun z => by cases z)
    cases ro with
    | lst rr =>
      rename_i xs
      have S1 := S.hide (.lst xs) hG hs he
      rw [upd_id hH] at S1
      have na := hide_not S hs he
      refine ⟨.ref a, hs, a, rfl, ⟨xs, .inl (.inl hH)⟩, ?_⟩
      refine lcJ_of (R := Rep) (J := Itl K a) (Q := Q) hts S1 p2 hz (jok2_list (fun H' _ pr => .inl (.inl (pr a _ hH na))) rr) fun v G' H' T r => ?_
      have fa := T.ext.h a _ hH na
      have T2 := Step.unhide (o0 := .lst xs) S hG hH hs he (.lst rr) (by rw [upd_id hH]; exact T)
      rw [upd_id fa] at T2
      refine k v G' _ T2 ?_
      obtain ⟨x, o, ex, q1, q2, q3, q4, q5⟩ := r
      have hx : x ≠ a := by
        rintro rfl
        rcases q1 with q1 | q1
        · rw [hH] at q1
          cases q1
        · exact na q1
      refine ⟨x, o, ex, ?_, fun ⟨j, d2, f2, q, n, s⟩ => ?_, q3, q4, q5⟩
      · rcases q1 with q1 | q1
        · exact .inl q1
        · exact .inr (hide_own ⟨_, he⟩ q1)
      · rcases set_at q with ⟨h1, w, _⟩ | ⟨hj, w⟩
        · subst h1
          rw [hs] at s
          cases s
          exact hx rfl
        · exact q2 ⟨j, d2, f2, w, n, s⟩
  · rename_i es he
    obtain ⟨⟨rs, en2⟩, p2, e2⟩ := Option.bind_eq_some_iff.mp e1
    obtain ⟨hz, e3⟩ := ite_some e2
    cases e3
    obtain ⟨v, hs, r⟩ := S.shd i _ he
    cases r with
    | lst hq rr =>
      rename_i a xs
      refine ⟨.ref a, hs, a, rfl, ⟨_, S.sub.seq hq⟩, ?_⟩
      exact lcJ_of (R := Rep) (J := Itl K a) (Q := Q) hts S p2 hz (jok2_list (fun H' s1 _ => s1.seq hq) rr) fun v G' H' T r => k v G' H' T r
  · cases e1
end
section
variable {X : Cx} {e : Expr} {pos : Pos}
theorem fe_lcO {i : Nat} {elt tg : Expr} {x : Str} {px : Pos} {ifs : List Expr} {scope : Scope} {own : List (Str × Nat)} {ts : List Nat} {s : Gv} {t : Tv} {f : Vv} (hc : X.calm = true) (hN : X.N.Nodup) (hx : PE X (.Name x px) (tVar i)) (ok : BlkOk X.N X.env.scope scope own) (hts : ∀ i ∈ ts, i ∈ own.map (·.2))
    (hg : ∀ (s' : Shared) (H : Hp) (C : Addr) (cl : List (Str × Addr)) (fp : List Addr), PG (X.blk s' H scope (compEnvC scope cl C X.env) fp) tg (FG Rep X.K ts s))
    (ht : ∀ (s' : Shared) (H : Hp) (C : Addr) (cl : List (Str × Addr)) (fp : List Addr), PTs (X.blk s' H scope (compEnvC scope cl C X.env) fp) ifs (FT X.K t))
    (he : ∀ (s' : Shared) (H : Hp) (C : Addr) (cl : List (Str × Addr)) (fp : List Addr), PE (X.blk s' H scope (compEnvC scope cl C X.env) fp) elt (FV X.K f)) (hs : ∀ y, foldedSetIterable (.Name x px) X.env y = pure y := by intro _; rfl) :
    PE X (.ListComp elt [⟨tg, .Name x px, ifs, 0⟩] scope pos) (FE X.K (fLcO (own.map (·.2)) i s t f)) := pe_imp (pe_lc hc hN (pi_list hx) ok hg ht he hs) fun _ _ _ h => lcO_of hts h
theorem fs_setLcO {i j : Nat} {y : Str} {py spos : Pos} {elt tg : Expr} {x : Str} {px : Pos} {ifs : List Expr} {scope : Scope} {own : List (Str × Nat)} {ts : List Nat} {s : Gv} {t : Tv} {f : Vv} (hc : X.calm = true) (hN : X.N.Nodup) (hx : PE X (.Name x px) (tVar i)) (ok : BlkOk X.N X.env.scope scope own) (hts : ∀ i ∈ ts, i ∈ own.map (·.2))
    (hg : ∀ (s' : Shared) (H : Hp) (C : Addr) (cl : List (Str × Addr)) (fp : List Addr), PG (X.blk s' H scope (compEnvC scope cl C X.env) fp) tg (FG Rep X.K ts s))
    (ht : ∀ (s' : Shared) (H : Hp) (C : Addr) (cl : List (Str × Addr)) (fp : List Addr), PTs (X.blk s' H scope (compEnvC scope cl C X.env) fp) ifs (FT X.K t))
    (he : ∀ (s' : Shared) (H : Hp) (C : Addr) (cl : List (Str × Addr)) (fp : List Addr), PE (X.blk s' H scope (compEnvC scope cl C X.env) fp) elt (FV X.K f))
    (hy : X.N[j]? = some y := by rfl) (hyl : X.env.scope.names.lookup y = some .local := by rfl) (hsw : swapsWith (.ListComp elt [⟨tg, .Name x px, ifs, 0⟩] scope pos) (some (.Name y py)) spos.line X.env = pure true := by exact sw_true rfl rfl rfl (by decide +kernel)) (hs : ∀ z, foldedSetIterable (.Name x px) X.env z = pure z := by intro _; rfl) :
    PS X (.Assign [.Name y py] (.ListComp elt [⟨tg, .Name x px, ifs, 0⟩] scope pos) spos) (FS X.K (sSet j (fLcO (own.map (·.2)) i s t f))) := ps_imp (ps_setLc hc hN hy hyl hsw (pi_list hx) ok hg ht he hs) fun D σ H ⟨G, en, o, en', S, e1, k⟩ => by
  obtain ⟨⟨d, b, en1⟩, p1, e2⟩ := Option.bind_eq_some_iff.mp e1
  obtain ⟨hl, e3⟩ := ite_some e2
  cases e3
  exact lcO_of hts ⟨G, en, d, b, en1, S, p1, fun v G1 H1 T r => k G1 H1 _ (T.s.store hl r)⟩
end
end Fx
/-! Fx29: sets of whole numbers and texts: set(..), sorted(set(..)). -/
namespace Fx
open PySem PySem.Spec L2
open PyProof.Rows (IntsAre)
/-! ### a set of keys, its table rising -/
def kof : Value → Key
  | .int i _ => .inl i
  | .str x _ => .inr x
  | _ => .inl 0
theorem kof_is {k : Key} {v : Value} (h : keyIs k v = true) : kof v = k := by
  rcases keyIs_shape h with ⟨i, t, rfl, rfl⟩ | ⟨x, t, rfl, rfl⟩ <;> rfl
theorem key_sc {k : Key} {v : Value} (h : keyIs k v = true) : v.scannable = true := by
  rcases keyIs_shape h with ⟨i, t, rfl, rfl⟩ | ⟨x, t, rfl, rfl⟩ <;> rfl
section
variable {P : Program} {w : World}
def GoodK (P : Program) (w : World) (e : Int × Value) : Prop := ∃ k : Key, keyIs k e.2 = true ∧ e.1 = (mixKind P w).hash k
abbrev kE (e : Int × Value) : Key := kof e.2
/-- the keys at a: S its members, n their number -/
def SetG (P : Program) (w : World) (h : Heap) (a : Addr) (S : Key → Bool) (n : Nat) : Prop :=
  ∃ ob es ep tb, h.get? a = some ob ∧ ob.ExactSet ∧ ob.data = .set es ep tb ∧ (∀ e ∈ es.toList, GoodK P w e) ∧ (es.toList.map kE).Nodup ∧ (∀ k, S k = true ↔ k ∈ es.toList.map kE) ∧
    es.size < scanBound ∧ tb.fits es.size = true ∧ es.size = n ∧ Ris tb.place.toList ∧ (w.params.followText "set-order" = true ∨ tb.led = true)
theorem SetG.at {h h' : Heap} {a : Addr} {S : Key → Bool} {n : Nat} (R : SetG P w h a S n) (k : ∀ o, h.get? a = some o → h'.get? a = some o) : SetG P w h' a S n := by
  obtain ⟨ob, es, ep, tb, ho, r⟩ := R
  exact ⟨ob, es, ep, tb, k ob ho, r⟩
theorem SetG.congr {h : Heap} {a : Addr} {S S' : Key → Bool} {n : Nat} (R : SetG P w h a S n) (e : ∀ k, S' k = S k) : SetG P w h a S' n := by
  have : S' = S := funext e
  rw [this]
  exact R
def inK (ks : List Key) (j : Key) : Bool := ks.any fun q => decide (q = j)
theorem inK_iff {ks : List Key} {j : Key} : inK ks j = true ↔ j ∈ ks := by
  unfold inK
  rw [List.any_eq_true]
  exact ⟨fun ⟨q, h, e⟩ => of_decide_eq_true e ▸ h, fun h => ⟨j, h, decide_eq_true rfl⟩⟩
theorem inK_snoc (ks : List Key) (z j : Key) : inK (ks ++ [z]) j = (inK ks j || decide (j = z)) := by
  unfold inK
  rw [List.any_append]
  congr 1
  simp [eq_comm]
theorem elemsK {l : List (Int × Value)} (g : ∀ e ∈ l, GoodK P w e) : ElemsOf (mixKind P w) l := fun e he => by
  obtain ⟨k, h1, h2⟩ := g e he
  exact ⟨⟨k, h1, h2⟩, key_sc h1⟩
theorem isK {e : Int × Value} (g : GoodK P w e) (k : Key) : (mixKind P w).is k e.2 = true ↔ kE e = k := by
  obtain ⟨k0, h1, _⟩ := g
  have e0 : kE e = k0 := kof_is h1
  constructor
  · intro h
    exact kof_is h
  · intro h
    rw [← h, e0]
    exact h1
theorem memK {l : List (Int × Value)} (g : ∀ e ∈ l, GoodK P w e) (k : Key) : k ∈ l.map kE ↔ ∃ e ∈ l, (mixKind P w).is k e.2 = true := by
  rw [List.mem_map]
  exact ⟨fun ⟨e, he, q⟩ => ⟨e, he, (isK (g e he) k).2 q⟩, fun ⟨e, he, q⟩ => ⟨e, he, (isK (g e he) k).1 q⟩⟩
end
section
variable {P : Program} {w : World} {A : Around} {E : Value → Shared → Prop} {s : Shared} {a : Addr} {S : Key → Bool} {n : Nat}
theorem setG_tail {g : Bool → Sem Unit} (hg : ∀ (c : Bool) (s₁ : Shared) (T : Unit → Shared → Prop), T () s₁ → wpAny (model P w) A (g c) T E s₁)
    {ob : Obj} {es : Array (Int × Value)} {ep : Nat} {tb : SetTable} (ho : s.heap.get? a = some ob) (hx : ob.ExactSet) (hd : ob.data = .set es ep tb)
    {fs : Array (Int × Value)} {tc : SetTable} {S1 : Key → Bool} (q1 : ∀ e ∈ fs.toList, GoodK P w e) (q2 : (fs.toList.map kE).Nodup) (q3 : ∀ k, S1 k = true ↔ k ∈ fs.toList.map kE)
    (q4 : fs.size < scanBound) (q5 : tc.fits fs.size = true) (q6 : Ris tc.place.toList) (q7 : w.params.followText "set-order" = true ∨ tc.led = true) {was : Bool} {R : Option Bool → Shared → Prop}
    (hR : ∀ h1, Heap.SameBut a s.heap h1 → SetG P w h1 a S1 fs.size → R (some true) { s with heap := h1 }) :
    wpAny (model P w) A (do
        storeSet a fs tc
        if (!was && tc.tooFull) = true then do
            g (relayAll tc fs (SetTable.grown fs.size)).2.2
            storeSet a (relayAll tc fs (SetTable.grown fs.size)).1 (relayAll tc fs (SetTable.grown fs.size)).2.1
            pure (some true)
          else pure (some true)) R E s := by
  refine wpAny_bind (wpAny_storeSet_of ho hd ?_ (fits_of_scanBound q4))
  have o1 := store_at (es' := fs) (t' := tc) ho hd
  have b1 := Heap.SameBut.update s.heap a (Obj.putSet fs tc)
  split
  · have r1 := relayAll_perm tc fs (SetTable.grown fs.size)
    have r2 := relayAll_fits tc fs (SetTable.grown fs.size)
    have r3 := relayAll_ris tc fs (SetTable.grown fs.size)
    have r4 := relayAll_led tc fs (SetTable.grown fs.size)
    generalize relayAll tc fs (SetTable.grown fs.size) = Z at r1 r2 r3 r4 ⊢
    obtain ⟨gs, td, gave⟩ := Z
    dsimp only at r1 r2 r3 r4 ⊢
    have z1 : gs.size = fs.size := by rw [← Array.length_toList, r1.length_eq, Array.length_toList]
    have z2 : gs.size < scanBound := by rw [z1]; exact q4
    refine wpAny_bind (hg _ _ _ (wpAny_bind (wpAny_storeSet_of o1 rfl ?_ (fits_of_scanBound z2))))
    refine wpAny_pure (hR _ (b1.trans (Heap.SameBut.update _ a _)) ?_)
    exact ⟨_, gs, _, td, store_at (es' := gs) (t' := td) o1 rfl, hx, rfl, fun e he => q1 e (r1.mem_iff.mp he), (r1.map kE).nodup_iff.mpr q2, fun k => (q3 k).trans (r1.map kE).mem_iff.symm, z2, r2, z1, r3, q7.imp id fun z => by rw [r4]; exact z⟩
  · exact wpAny_pure (hR _ b1 ⟨_, fs, _, tc, o1, hx, rfl, q1, q2, q3, q4, q5, rfl, q6, q7⟩)
theorem setG_add {k : Key} {v : Value} {T : Bool → Shared → Prop} (hv : keyIs k v = true) (R : SetG P w s.heap a S n) (room : n + 1 < scanBound)
    (hT : ∀ h1, Heap.SameBut a s.heap h1 → SetG P w h1 a (fun j => S j || decide (j = k)) (if S k = true then n else n + 1) → T (!S k) { s with heap := h1 }) :
    wpAny (model P w) A (setAddHashed a v ((mixKind P w).hash k)) T E s := by
  obtain ⟨ob, es, ep, tb, ho, hx, hd, g, nd, hm, hb, hf, hn, hr, hl⟩ := R
  have hk : (mixKind P w).is k v = true := hv
  have sc := key_sc hv
  have el : ElemsOf (mixKind P w) es.toList := elemsK g
  unfold setAddHashed setAddHashedIn
  refine wpAny_holding (wpAny_bind (wpAny_setState_of ho hd hf ?_))
  dsimp only
  rw [byScan_of sc hb el]
  simp only [↓reduceIte]
  unfold setAddByScan
  refine wpAny_bind (wpAny_bind (wpAny_rule ?_))
  refine wpAny_bind (wpAny_setScan_of hk ho hd hf el ?_)
  cases hi : List.findIdx? (fun e => (mixKind P w).is k e.2) es.toList with
  | some j =>
    dsimp only
    obtain ⟨hj, pj, _⟩ := List.findIdx?_eq_some_iff_getElem.mp hi
    have sk : S k = true := (hm k).2 ((memK g k).2 ⟨es.toList[j], List.getElem_mem hj, pj⟩)
    refine wpAny_pure (wpAny_pure ?_)
    have q := hT s.heap (Heap.SameBut.refl a s.heap) ⟨ob, es, ep, tb, ho, hx, hd, g, nd, fun i => by
      rw [Bool.or_eq_true, decide_eq_true_eq, ← hm i]
      exact ⟨fun z => z.elim id (fun e => e ▸ sk), .inl⟩, hb, hf, by rw [if_pos sk]; exact hn, hr, hl⟩
    rw [sk] at q
    exact q
  | none =>
    dsimp only
    have nk : k ∉ es.toList.map kE := fun z => by
      obtain ⟨e, he, q⟩ := (memK g k).1 z
      have c := List.findIdx?_eq_none_iff.mp hi e he
      rw [q] at c
      cases c
    have sk : S k = false := by
      cases q : S k with
      | false => rfl
      | true => exact absurd ((hm k).1 q) nk
    have gw : ∀ (c : Bool) {s₁ : Shared} {Z : Unit → Shared → Prop}, Z () s₁ → wpAny (model P w) A (match c with | true => rule "set.scan.the-table-gave-way" | false => pure ()) Z E s₁ :=
      fun c s₁ Z q => by cases c <;> first | exact wpAny_pure q | exact wpAny_rule q
    have m1 := layNew_perm tb es ((mixKind P w).hash k) v
    have m2 := layNew_fits tb es ((mixKind P w).hash k) v
    have m3 := layNew_ris tb es ((mixKind P w).hash k) v hr
    have m4 := layNew_led tb es ((mixKind P w).hash k) v
    generalize layNew tb es ((mixKind P w).hash k) v = Z at m1 m2 m3 m4 ⊢
    obtain ⟨fs, tc, was, gave⟩ := Z
    dsimp only at m1 m2 m3 m4 ⊢
    rw [Array.toList_push] at m1
    have pc : fs.toList.Perm (((mixKind P w).hash k, v) :: es.toList) := m1.trans (List.perm_append_singleton _ _)
    have pk : (fs.toList.map kE).Perm (k :: es.toList.map kE) := by
      have := pc.map kE
      rw [List.map_cons] at this
      have e0 : kE ((mixKind P w).hash k, v) = k := kof_is hv
      rw [e0] at this
      exact this
    have q1 : ∀ e ∈ fs.toList, GoodK P w e := fun e he => by
      rcases List.mem_cons.mp (pc.mem_iff.mp he) with z | z
      · rw [z]; exact ⟨k, hv, rfl⟩
      · exact g e z
    have q2 : (fs.toList.map kE).Nodup := pk.nodup_iff.mpr (List.nodup_cons.mpr ⟨nk, nd⟩)
    have q3 : ∀ i, (S i || decide (i = k)) = true ↔ i ∈ fs.toList.map kE := fun i => by
      rw [Bool.or_eq_true, decide_eq_true_eq, hm i, pk.mem_iff, List.mem_cons]
      exact Or.comm
    have z1 : fs.size = n + 1 := by rw [← Array.length_toList, pc.length_eq, List.length_cons, Array.length_toList, hn]
    have z2 : fs.size < scanBound := by rw [z1]; exact room
    have ld : w.params.followText "set-order" = true ∨ tc.led = true := hl.imp id fun z => by rw [m4]; exact z
    have fin : ∀ h1, Heap.SameBut a s.heap h1 → SetG P w h1 a (fun j => S j || decide (j = k)) fs.size → T true { s with heap := h1 } := fun h1 sb r => by
      have q := hT h1 sb
      rw [sk] at q
      rw [z1] at r
      exact q r
    refine wpAny_bind (gw _ ?_)
    split
    · refine wpAny_bind ?_
      rw [hashByValue_scannable 8 sc]
      refine wpAny_pure (setG_tail ?_ ho hx hd q1 q2 q3 z2 ?_ ?_ ?_ ?_)
      · intro c s₁ Z q; cases c <;> first | exact wpAny_pure q | exact wpAny_rule q
      · first | (split <;> first | exact m2 | exact SetTable.fits_plain_off m2) | exact m2
      · first | (split <;> exact m3) | exact m3
      · first | (split <;> exact ld) | exact ld
      · intro h1 sb r; dsimp only; exact wpAny_pure (fin h1 sb r)
    · refine wpAny_bind (wpAny_pure ?_)
      simp only [↓reduceIte]
      refine setG_tail ?_ ho hx hd q1 q2 q3 z2 m2 m3 ld ?_
      · intro c s₁ Z q; cases c <;> first | exact wpAny_pure q | exact wpAny_rule q
      · intro h1 sb r; dsimp only; exact wpAny_pure (fin h1 sb r)
theorem setG_new_at {h : Heap} {ks : List Key} (ho : h.get? a = some { cls := .type "set", dict := none, data := .set #[] 0 (.fresh 0 0 (!w.params.followText "set-order")) }) : SetG P w h a (fun j => inK (ks.take 0) j) 0 :=
  ⟨_, #[], 0, _, ho, ⟨rfl, rfl, rfl⟩, rfl, (fun e he => by simp at he), (by simp), (fun k => by simp [inK]), (by decide), (by rfl), rfl, List.Pairwise.nil, by
    show _ ∨ (!w.params.followText "set-order") = true
    cases w.params.followText "set-order"
    · exact .inr rfl
    · exact .inl rfl⟩
theorem setG_loop {I : Addr} {fp wr : List Addr} {G : Array GenState → Array GenState → Prop} {m : Nat} {Pv : Nat → Value → Prop} {St : Nat → Shared → Prop} {R : Result → Shared → Prop}
    (W : WalksS P w A.in1 I fp wr G m Pv St) (D : Addr) (hD : D ∉ fp) (ks : List Key) (hm : m = ks.length) (hb : ks.length + 1 < scanBound) (val : ∀ i v, Pv i v → ∃ k, ks[i]? = some k ∧ keyIs k v = true) :
    ∀ (j i : Nat) (s : Shared), m - i = j → i ≤ m → St i s → (∃ c, c ≤ i ∧ SetG P w s.heap D (fun k => inK (ks.take i) k) c) →
      (∀ s1 c, Moved (D :: wr) G s s1 → c ≤ m → SetG P w s1.heap D (fun k => inK ks k) c → R (.ok (.ret .none)) s1) →
      codeAny (model P w) A (.builtin "set.update.loop" ⟨[.ref D, .ref I], []⟩) R s := by
  have nw : D ∉ wr := fun h => hD (W.sub _ h)
  have sub : ∀ b ∈ wr, b ∈ D :: wr := fun b hb => List.mem_cons_of_mem _ hb
  intro j
  induction j with
  | zero =>
    intro i s hj hi st ⟨c, hc, hS⟩ hR
    have e0 : i = m := by omega
    subst e0
    refine codeAny_builtin PyProof.Rows.F.entry_set_update_loop ?_
    rw [Around.under_plainId PyProof.Rows.F.plain_set_update_loop _]
    show wpAny _ A.in1 (pyNext (.ref I) >>= _) _ _ s
    refine wpAny_bind (W.done s _ _ st fun s1 hm1 => ?_)
    show wpAny _ A.in1 (ret Value.none) _ _ s1
    have e : ks.take i = ks := List.take_of_length_le (by omega)
    rw [e] at hS
    exact wpAny_pure (hR s1 c (hm1.mono sub) hc (hS.at fun o e => hm1.heap D o nw e))
  | succ j ih =>
    intro i s hj hi st ⟨c, hc, hS⟩ hR
    have lt : i < m := by omega
    refine codeAny_builtin PyProof.Rows.F.entry_set_update_loop ?_
    rw [Around.under_plainId PyProof.Rows.F.plain_set_update_loop _]
    show wpAny _ A.in1 (pyNext (.ref I) >>= _) _ _ s
    refine wpAny_bind (W.item i s _ _ lt st fun v s1 hP st1 hm1 => ?_)
    obtain ⟨z, hz, hv⟩ := val i v hP
    have hS1 : SetG P w s1.heap D (fun k => inK (ks.take i) k) c := hS.at fun o e => hm1.heap D o nw e
    show wpAny _ A.in1 (holding [v] (setAdd D v) >>= _) _ _ s1
    refine wpAny_bind (wpAny_holding ?_)
    unfold setAdd
    refine wpAny_holding (wpAny_bind ((mixKind P w).pyHash (k := z) hv ?_))
    refine setG_add (s := { s1 with toks := s1.toks + 1 }) hv hS1 (by omega) fun h1 sb hS2 => ?_
    have hS3 : SetG P w h1 D (fun k => inK (ks.take (i + 1)) k) (if inK (ks.take i) z = true then c else c + 1) := hS2.congr fun k => by
      rw [List.take_add_one, hz]
      exact inK_snoc _ _ _
    have hc3 : (if inK (ks.take i) z = true then c else c + 1) ≤ i + 1 := by
      split <;> omega
    refine wpAny_pure ⟨plainId_quiet PyProof.Rows.F.plain_set_update_loop _, ih (i + 1) _ (by omega) lt (W.frame _ s1 _ _ st1 (Nat.le_succ _) fun b hb o e => ?_) ⟨_, hc3, hS3⟩ fun s2 c2 hm2 hc2 hS4 => ?_⟩
    · rw [sb.2 b (fun h : b = D => hD (by rw [← h]; exact hb))]; exact e
    · refine hR s2 c2 (Moved.trans W.gtrans ((hm1.mono sub).then_heap (Nat.le_succ _) fun b o hb e => ?_) hm2) hc2 hS4
      rw [sb.2 b (fun h : b = D => hb (by rw [h]; exact List.mem_cons_self))]; exact e
end
section
variable {P : Program} {w : World} {A : Around} {E : Value → Shared → Prop} {s : Shared}
/-- set(l) of a list of keys -/
theorem setG_of {a : Addr} {vs : Array Value} (ks : List Key) {Q : Value → Shared → Prop} (nh : A.handled = none) (hL : s.heap.IsList a vs) (hV : ∀ (i : Nat) (v : Value), vs[i]? = some v → ∃ k, ks[i]? = some k ∧ keyIs k v = true) (vz : vs.size = ks.length) (hB : ks.length + 1 < scanBound)
    (k : ∀ (g : Heap) (tk c : Nat), SetG P w g s.heap.objs.size (fun j => inK ks j) c → c ≤ ks.length → (∀ b o, s.heap.get? b = some o → g.get? b = some o) → Q (.ref s.heap.objs.size) { s with heap := g, toks := tk }) :
    wpAny (model P w) A (call (.type "set") [.ref a]) Q E s := by
  obtain ⟨cm, tm, mro⟩ := F.called_set.mro
  have made := F.called_set.made
  have subs := F.called_set.sub
  refine wpAny_call (codeAny_of_tree ?_)
  show wpAny _ _ (callAny (.type "set") _) _ _ _
  refine wpAny_pure ⟨Code.quiet_builtin _ (by decide +kernel), codeAny_builtin F.entry_type_call ?_⟩
  rw [Around.under_plain (weight_type_call_type "set" [.ref a] []) rfl]
  have f1 := F.called_set.notType
  have f2 := F.called_set.canCreate
  have f3 := F.typeCall_set_1 (.ref a)
  repeat (any_goals (first | assumption | wp_step))

  refine codeAny_mono (code_set_led1 (.ref a) (E := E) (Q₁ := fun r u => r = .ref s.heap.objs.size ∧ u = { s with heap := s.heap.push { cls := .type "set", dict := none, data := .set #[] 0 (.fresh 0 0 (!w.params.followText "set-order")) } }) ⟨rfl, rfl⟩) fun r u hr => ?_
  cases r with
  | error x => exact hr
  | ok fl =>
    cases fl with
    | ret ob =>
      obtain ⟨rfl, rfl⟩ := hr
      have at0 : (s.heap.push ({ cls := .type "set", dict := none, data := .set #[] 0 (.fresh 0 0 (!w.params.followText "set-order")) })).get? s.heap.objs.size = some { cls := .type "set", dict := none, data := .set #[] 0 (.fresh 0 0 (!w.params.followText "set-order")) } := Heap.get?_push_size _ rfl
      have ty0 : Shared.TypeIs { s with heap := s.heap.push ({ cls := .type "set", dict := none, data := .set #[] 0 (.fresh 0 0 (!w.params.followText "set-order")) }) } (.ref s.heap.objs.size) "set" := ⟨_, at0, rfl⟩
      have li := F.called_set.init.lookup
      have bi := F.called_set.init.bind (.ref s.heap.objs.size)
      repeat (any_goals (first | assumption | wp_step))

      refine codeAny_mono (codeAny_call_builtin (R := wants (fun r t => r = .none ∧ ∃ g tk c, t = { s with heap := g, toks := tk } ∧ SetG P w g s.heap.objs.size (fun j => inK ks j) c ∧ c ≤ ks.length ∧ ∀ b o, s.heap.get? b = some o → g.get? b = some o) E)
        F.called_set.init.plain F.entry_set_init (check_set_init_1 ty0 ?_)) fun r t ht => ?_
      · obtain ⟨ol, oa, oc, no, od⟩ := hL
        obtain ⟨lc, ld, ldat, ls⟩ := ol
        simp only at oc od
        subst oc; subst od
        have oa' : (s.heap.push ({ cls := .type "set", dict := none, data := .set #[] 0 (.fresh 0 0 (!w.params.followText "set-order")) })).get? a = some { cls := .type "list", dict := ld, data := .seq vs no, slots := ls } := Heap.get?_push_of_some _ oa
        have g1 := F.sub_list_set
        have g2 := F.sub_list_frozenset
        have g3 : (Value.type "list" == Value.type "dict") = false := by decide
        have L1 : (s.heap.push ({ cls := .type "set", dict := none, data := .set #[] 0 (.fresh 0 0 (!w.params.followText "set-order")) })).IsList a vs := ⟨_, oa', rfl, no, rfl⟩
        unfold Builtin.«set.__init__» noKeywords Builtin.Frozenset.updateFrom
        generalize eP : pyIter = PI
        wp_walk
        subst eP

        refine wpAny_pyIter_list (s := { s with heap := s.heap.push ({ cls := .type "set", dict := none, data := .set #[] 0 (.fresh 0 0 (!w.params.followText "set-order")) }) }) L1 ?_
        refine wpAny_bind (wpAny_runValue ?_)
        have ltA : a < s.heap.objs.size := Heap.lt_size oa
        have nh3 : A.in1.in1.in1.handled = none := by simp [nh]
        have szN : (s.heap.push ({ cls := .type "set", dict := none, data := .set #[] 0 (.fresh 0 0 (!w.params.followText "set-order")) })).objs.size = s.heap.objs.size + 1 := Heap.size_push ..
        have neI : a ≠ (s.heap.push ({ cls := .type "set", dict := none, data := .set #[] 0 (.fresh 0 0 (!w.params.followText "set-order")) })).objs.size := by rw [szN]; exact Nat.ne_of_lt (Nat.lt_succ_of_lt ltA)
        have offS : s.heap.objs.size ∉ [(s.heap.push ({ cls := .type "set", dict := none, data := .set #[] 0 (.fresh 0 0 (!w.params.followText "set-order")) })).objs.size, a] := by
          rw [szN]
          simp only [List.mem_cons, List.not_mem_nil, or_false, not_or]
          exact ⟨Nat.ne_of_lt (Nat.lt_succ_self _), Nat.ne_of_gt ltA⟩
        refine setG_loop ((Walks.list nh3 _ a neI vs).toS) s.heap.objs.size offS ks vz hB hV (vs.size - 0) 0 _ (by omega) (Nat.zero_le _) ⟨⟨_, Heap.get?_push_size _ rfl, rfl, rfl⟩, (L1.push _)⟩ ?s0 ?s1
        case s0 =>
          exact ⟨0, Nat.le_refl 0, setG_new_at (ks := ks) (Heap.get?_push_of_some _ at0)⟩
        case s1 =>
          intro u c hm hc hR
          obtain ⟨g, gg, dd, tk, oo⟩ := u
          have x1 : gg = s.gens := hm.gens
          have x2 : dd = s.drawn := hm.drawn
          have x3 : oo = s.os := hm.os
          subst x1; subst x2; subst x3
          show wpAny _ _ _ _ _ _
          refine wpAny_pure ?_
          show wpAny _ _ (ret Value.none) _ _ _
          rw [vz] at hc
          refine wpAny_pure ⟨rfl, g, tk, c, rfl, hR, hc, fun b o hb => ?_⟩
          have lb : b < s.heap.objs.size := Heap.lt_size hb
          refine hm.heap b o ?_ (Heap.get?_push_of_some _ (Heap.get?_push_of_some _ hb))
          simp only [List.mem_cons, List.not_mem_nil, or_false, not_or]
          exact ⟨Nat.ne_of_lt lb, by rw [szN]; exact Nat.ne_of_lt (Nat.lt_succ_of_lt lb)⟩

      · cases r with
        | error x => exact ht
        | ok fl =>
          cases fl with
          | ret v =>
            obtain ⟨rfl, g, tk, c, rfl, hR, hc, hk⟩ := ht
            repeat (any_goals (first | assumption | wp_step))
            exact k _ _ _ hR hc hk
          | _ => exact ht.elim
    | _ => exact hr.elim
end
end Fx
/-! Fx30: sets of keys, as objects; sorted(set(..)), len(set(..)). -/
namespace Fx
open PySem PySem.Spec L2
section
variable {P : Program} {w : World} {A : Around} {E : Value → Shared → Prop} {s : Shared}
/-- set(l) of a tuple of keys -/
theorem setG_ofT {a : Addr} {vs : Array Value} (ks : List Key) {Q : Value → Shared → Prop} (nh : A.handled = none) (hL : s.heap.IsTuple a vs) (hV : ∀ (i : Nat) (v : Value), vs[i]? = some v → ∃ k, ks[i]? = some k ∧ keyIs k v = true) (vz : vs.size = ks.length) (hB : ks.length + 1 < scanBound)
    (k : ∀ (g : Heap) (tk c : Nat), SetG P w g s.heap.objs.size (fun j => inK ks j) c → c ≤ ks.length → (∀ b o, s.heap.get? b = some o → g.get? b = some o) → Q (.ref s.heap.objs.size) { s with heap := g, toks := tk }) :
    wpAny (model P w) A (call (.type "set") [.ref a]) Q E s := by
  obtain ⟨cm, tm, mro⟩ := F.called_set.mro
  have made := F.called_set.made
  have subs := F.called_set.sub
  refine wpAny_call (codeAny_of_tree ?_)
  show wpAny _ _ (callAny (.type "set") _) _ _ _
  refine wpAny_pure ⟨Code.quiet_builtin _ (by decide +kernel), codeAny_builtin F.entry_type_call ?_⟩
  rw [Around.under_plain (weight_type_call_type "set" [.ref a] []) rfl]
  have f1 := F.called_set.notType
  have f2 := F.called_set.canCreate
  have f3 := F.typeCall_set_1 (.ref a)
  repeat (any_goals (first | assumption | wp_step))

  refine codeAny_mono (code_set_led1 (.ref a) (E := E) (Q₁ := fun r u => r = .ref s.heap.objs.size ∧ u = { s with heap := s.heap.push { cls := .type "set", dict := none, data := .set #[] 0 (.fresh 0 0 (!w.params.followText "set-order")) } }) ⟨rfl, rfl⟩) fun r u hr => ?_
  cases r with
  | error x => exact hr
  | ok fl =>
    cases fl with
    | ret ob =>
      obtain ⟨rfl, rfl⟩ := hr
      have at0 : (s.heap.push ({ cls := .type "set", dict := none, data := .set #[] 0 (.fresh 0 0 (!w.params.followText "set-order")) })).get? s.heap.objs.size = some { cls := .type "set", dict := none, data := .set #[] 0 (.fresh 0 0 (!w.params.followText "set-order")) } := Heap.get?_push_size _ rfl
      have ty0 : Shared.TypeIs { s with heap := s.heap.push ({ cls := .type "set", dict := none, data := .set #[] 0 (.fresh 0 0 (!w.params.followText "set-order")) }) } (.ref s.heap.objs.size) "set" := ⟨_, at0, rfl⟩
      have li := F.called_set.init.lookup
      have bi := F.called_set.init.bind (.ref s.heap.objs.size)
      repeat (any_goals (first | assumption | wp_step))

      refine codeAny_mono (codeAny_call_builtin (R := wants (fun r t => r = .none ∧ ∃ g tk c, t = { s with heap := g, toks := tk } ∧ SetG P w g s.heap.objs.size (fun j => inK ks j) c ∧ c ≤ ks.length ∧ ∀ b o, s.heap.get? b = some o → g.get? b = some o) E)
        F.called_set.init.plain F.entry_set_init (check_set_init_1 ty0 ?_)) fun r t ht => ?_
      · obtain ⟨ol, oa, oc, no, od⟩ := hL
        obtain ⟨lc, ld, ldat, ls⟩ := ol
        simp only at oc od
        subst oc; subst od
        have oa' : (s.heap.push ({ cls := .type "set", dict := none, data := .set #[] 0 (.fresh 0 0 (!w.params.followText "set-order")) })).get? a = some { cls := .type "tuple", dict := ld, data := .seq vs no, slots := ls } := Heap.get?_push_of_some _ oa
        have g1 := F.sub_tuple_set
        have g2 := F.sub_tuple_frozenset
        have g3 : (Value.type "tuple" == Value.type "dict") = false := by decide
        have L1 : (s.heap.push ({ cls := .type "set", dict := none, data := .set #[] 0 (.fresh 0 0 (!w.params.followText "set-order")) })).IsTuple a vs := ⟨_, oa', rfl, no, rfl⟩
        unfold Builtin.«set.__init__» noKeywords Builtin.Frozenset.updateFrom
        generalize eP : pyIter = PI
        wp_walk
        subst eP

        refine wpAny_pyIter_tuple (s := { s with heap := s.heap.push ({ cls := .type "set", dict := none, data := .set #[] 0 (.fresh 0 0 (!w.params.followText "set-order")) }) }) L1 ?_
        refine wpAny_bind (wpAny_runValue ?_)
        have ltA : a < s.heap.objs.size := Heap.lt_size oa
        have nh3 : A.in1.in1.in1.handled = none := by simp [nh]
        have szN : (s.heap.push ({ cls := .type "set", dict := none, data := .set #[] 0 (.fresh 0 0 (!w.params.followText "set-order")) })).objs.size = s.heap.objs.size + 1 := Heap.size_push ..
        have neI : a ≠ (s.heap.push ({ cls := .type "set", dict := none, data := .set #[] 0 (.fresh 0 0 (!w.params.followText "set-order")) })).objs.size := by rw [szN]; exact Nat.ne_of_lt (Nat.lt_succ_of_lt ltA)
        have offS : s.heap.objs.size ∉ [(s.heap.push ({ cls := .type "set", dict := none, data := .set #[] 0 (.fresh 0 0 (!w.params.followText "set-order")) })).objs.size, a] := by
          rw [szN]
          simp only [List.mem_cons, List.not_mem_nil, or_false, not_or]
          exact ⟨Nat.ne_of_lt (Nat.lt_succ_self _), Nat.ne_of_gt ltA⟩
        refine setG_loop ((Walks.tuple nh3 _ a neI vs).toS) s.heap.objs.size offS ks vz hB hV (vs.size - 0) 0 _ (by omega) (Nat.zero_le _) ⟨⟨_, Heap.get?_push_size _ rfl, rfl, rfl⟩, (L1.push _)⟩ ?s0 ?s1
        case s0 =>
          exact ⟨0, Nat.le_refl 0, setG_new_at (ks := ks) (Heap.get?_push_of_some _ at0)⟩
        case s1 =>
          intro u c hm hc hR
          obtain ⟨g, gg, dd, tk, oo⟩ := u
          have x1 : gg = s.gens := hm.gens
          have x2 : dd = s.drawn := hm.drawn
          have x3 : oo = s.os := hm.os
          subst x1; subst x2; subst x3
          show wpAny _ _ _ _ _ _
          refine wpAny_pure ?_
          show wpAny _ _ (ret Value.none) _ _ _
          rw [vz] at hc
          refine wpAny_pure ⟨rfl, g, tk, c, rfl, hR, hc, fun b o hb => ?_⟩
          have lb : b < s.heap.objs.size := Heap.lt_size hb
          refine hm.heap b o ?_ (Heap.get?_push_of_some _ (Heap.get?_push_of_some _ hb))
          simp only [List.mem_cons, List.not_mem_nil, or_false, not_or]
          exact ⟨Nat.ne_of_lt lb, by rw [szN]; exact Nat.ne_of_lt (Nat.lt_succ_of_lt lb)⟩

      · cases r with
        | error x => exact ht
        | ok fl =>
          cases fl with
          | ret v =>
            obtain ⟨rfl, g, tk, c, rfl, hR, hc, hk⟩ := ht
            repeat (any_goals (first | assumption | wp_step))
            exact k _ _ _ hR hc hk
          | _ => exact ht.elim
    | _ => exact hr.elim
end
def SetGO (P : Program) (w : World) (a : Addr) (S : Key → Bool) (n : Nat) : HO := .ext fun h => SetG P w h a S n
theorem setGO_new {w : World} {P : Program} {H : Hp} {h : Heap} {a : Addr} {S : Key → Bool} {n : Nat} (R : SetG P w h a S n) : ObjOk P w H h a (SetGO P w a S n) := by
  have ⟨o, _, _, _, ho, _⟩ := R
  exact ⟨R, ⟨o, ho⟩, fun h1 h2 p k => SetG.at p k⟩
/-- each key once, the first of it -/
def dedK : List Key → List Key
  | [] => []
  | k :: ks => k :: (dedK ks).filter fun j => !decide (j = k)
theorem dedK_mem {j : Key} : ∀ {ks : List Key}, j ∈ dedK ks ↔ j ∈ ks
  | [] => Iff.rfl
  | k :: ks => by
    rw [dedK, List.mem_cons, List.mem_cons, List.mem_filter, dedK_mem (ks := ks)]
    by_cases h : j = k <;> simp [h]
theorem dedK_nd : ∀ ks : List Key, (dedK ks).Nodup
  | [] => List.nodup_nil
  | k :: ks => List.nodup_cons.mpr ⟨fun h => by have := (List.mem_filter.mp h).2; simp at this, (dedK_nd ks).filter _⟩
theorem nd_perm : ∀ {xs ys : List Key}, xs.Nodup → ys.Nodup → (∀ k, k ∈ xs ↔ k ∈ ys) → xs.Perm ys
  | [], ys, _, _, h => by
    cases ys with
    | nil => exact .nil
    | cons y ys => have := (h y).mpr (List.mem_cons_self ..); cases this
  | x :: xs, ys, h1, h2, h => by
    obtain ⟨n1, n2⟩ := List.nodup_cons.mp h1
    obtain ⟨a, b, rfl⟩ := List.append_of_mem ((h x).mp (List.mem_cons_self ..))
    have p : (a ++ x :: b).Perm (x :: (a ++ b)) := List.perm_middle
    have h3 := p.nodup_iff.mp h2
    obtain ⟨m1, m2⟩ := List.nodup_cons.mp h3
    refine (List.Perm.cons x (nd_perm n2 m2 fun k => ⟨fun q => ?_, fun q => ?_⟩)).trans p.symm
    · have := p.mem_iff.mp ((h k).mp (List.mem_cons_of_mem _ q))
      rcases List.mem_cons.mp this with r | r
      · exact absurd (r ▸ q) n1
      · exact r
    · have := (h k).mpr (p.mem_iff.mpr (List.mem_cons_of_mem _ q))
      rcases List.mem_cons.mp this with r | r
      · exact absurd (r ▸ q) m1
      · exact r
theorem setG_len {P : Program} {w : World} {h : Heap} {a : Addr} {ks : List Key} {c : Nat} (R : SetG P w h a (fun j => inK ks j) c) : c = (dedK ks).length := by
  obtain ⟨o, es, ep, t, ho, hex, hd, g, nd, hm, hb, hf, hn, hr, hl⟩ := R
  have e : (es.toList.map kE).length = c := by rw [List.length_map, Array.length_toList]; exact hn
  rw [← e]
  exact (nd_perm nd (dedK_nd ks) fun k => by rw [← hm k, inK_iff, dedK_mem]).length_eq
def rSetGL (K : PySem.W.Frag) (P : Program) (w : World) : List V → Hp → VK → Prop := fun vs H Q => ∃ (a : Addr) (ks : List Key), vs = [.ref a] ∧ (SqL K H a (ks.map kV) ∨ SqT K H a (ks.map kV)) ∧ ks.length ≤ 1000 ∧ ∀ p, H p = none → Q (.ref p) (upd H p (SetGO P w p (fun j => inK ks j) (dedK ks).length))
theorem key_vals : ∀ {ks : List Key} {us : List Value}, Vals (ks.map kV) us → us.length = ks.length ∧ ∀ (i : Nat) (v : Value), us[i]? = some v → ∃ k, ks[i]? = some k ∧ keyIs k v = true
  | [], us, h => by
    cases h
    exact ⟨rfl, fun i v e => by simp at e⟩
  | k :: ks, us, h => by
    cases h with
    | cons r h =>
      obtain ⟨l, z⟩ := key_vals h
      refine ⟨congrArg Nat.succ l, fun i v e => ?_⟩
      cases i with
      | zero =>
        cases e
        refine ⟨k, rfl, ?_⟩
        cases k with
        | inl i => obtain ⟨t, rfl⟩ := r; show (decide _) = true; simp
        | inr x => obtain ⟨t, rfl⟩ := r; show (decide _) = true; simp
      | succ i => exact z i v e
section
variable {X : Cx} {e : Expr} {p1 p2 pos pos2 : Pos}
theorem cr_setGL (hc : X.calm = true) : CallR X (.type "set") (rSetGL X.K X.prog X.w) := by
  intro pins s σ H vs us Q I r ⟨a, ks, ev, hq, hl, q⟩
  subst ev
  rw [Vals.ref1 r]
  have hd := I.ok.hd hc
  have sb : ks.length + 1 < scanBound := by unfold scanBound; omega
  have fin : ∀ (g : Heap) (tk c : Nat), SetG X.prog X.w g s.heap.objs.size (fun j => inK ks j) c → c ≤ ks.length → (∀ b o, s.heap.get? b = some o → g.get? b = some o) → EP X pins σ Q (.ref s.heap.objs.size) { s with heap := g, toks := tk } := fun g tk c R _ k => by
    have ec := setG_len R
    subst ec
    exact ⟨.ref _, upd H s.heap.objs.size (SetGO X.prog X.w s.heap.objs.size (fun j => inK ks j) (dedK ks).length), I.laid (t' := tk) k (Nat.le_refl _) (setGO_new R), rfl, q _ (I.hok.fresh (Nat.le_refl _))⟩
  rcases hq with hq | hq
  · obtain ⟨its, rv, pl, hz⟩ := I.list hq
    obtain ⟨l, z⟩ := key_vals rv
    exact setG_of ks hd (show s.heap.IsList a its.toArray from pl.isList) (fun i v h => z i v (by simpa using h)) (by simpa using l) sb fin
  · obtain ⟨its, rv, pl, hz⟩ := I.tuple hq
    obtain ⟨l, z⟩ := key_vals rv
    exact setG_ofT ks hd (show s.heap.IsTuple a its.toArray from pl) (fun i v h => z i v (by simpa using h)) (by simpa using l) sb fin
end
end Fx
/-! Fx31: sorted(set(..)) of keys. -/
namespace Fx
open PySem PySem.Spec L2
section
variable {X : Cx} {pins : List (Addr × Obj)} {σ : St} {H : Hp} {s : Shared}
def Col2 (X : Cx) (pins : List (Addr × Obj)) (σ : St) (s : Shared) (v : Value) (T : Hp → List V → Prop) : Prop :=
  ∀ (R : List Value → Shared → Prop) (E : Value → Shared → Prop), (∀ us ys H2 s1, Vals ys us → Inv X pins σ H2 s1 → T H2 ys → R us s1) → wpAny (model X.prog X.w) X.A.in1 (collect v) R E s
theorem sort_run2 {x : Value} {T : Hp → List V → Prop} {Q : VK} (hu : X.A.units + 64 < cLine) (C : Col2 X pins σ s x T)
    (hT : ∀ H ys, T H ys → ∃ ds : List D, sortOk ds = true ∧ DpAll X.K H ys ds ∧ ∃ R : V → D → Prop, Paired R ys ds ∧ ∀ p zs, H p = none → Paired R zs (srtD ds) → Q (.ref p) (upd H p (.lst zs))) : wpAny (model X.prog X.w) X.A (call (.builtin "sorted") [x]) (EP X pins σ Q) X.xe s := by
  refine Calls.call_function_entry PyProof.Rows.kind_sorted PyProof.Rows.plain_sorted PyProof.Rows.entry_sorted (PyProof.Rows.args_sorted1 _) ?_
  unfold Builtin.«sorted»
  refine wpAny_bind (m := checkCount "sorted" 1 1 _) (wpAny_pure ?_)
  refine wpAny_bind (C _ _ fun us ys H s1 rv I hh => ?_)
  obtain ⟨ds, ok, dp, R, pr, q⟩ := hT H ys hh
  obtain ⟨hz, hal, hk, hd⟩ := sortOk_of ok
  have hl : us.length = ds.length := rv.length.symm.trans pr.length
  refine wpAny_bind (wpAny_newList ?_ (by rw [hl]; exact hz))
  have hoL : (s1.heap.push (PyProof.Rows.seqObj "list" us.toArray 0)).get? s1.heap.objs.size = some (PyProof.Rows.seqObj "list" us.toArray 0) := Heap.get?_push_size _ rfl
  show wpAny _ _ _ _ _ { s1 with heap := s1.heap.push (PyProof.Rows.seqObj "list" us.toArray 0), toks := s1.toks }
  have hn : H s1.heap.objs.size = none := I.hok.fresh (Nat.le_refl _)
  have er : PySem.W.EachIs (fun v d => ∃ as, Reads (PySem.W.sortingHeap (s1.heap.push (PyProof.Rows.seqObj "list" us.toArray 0)) s1.heap.objs.size us) v d as) us ds := by
    obtain ⟨as, ra⟩ := Dp.readsAll I ds ys us dp rv
    have e0 := PySem.W.readsAll_each (fun d : D => d) (bs := ds) (by rw [List.map_id']; exact ra)
    exact e0.mono fun v d ⟨as, r⟩ => ⟨as, PyProof.Rows.Reads.keeps (fun b o e => PySem.W.sortingHeap_old (Nat.ne_of_lt (Heap.lt_size e)) (Heap.get?_push_of_some _ e)) r⟩
  have eR := paired_in rv pr
  have S : PySem.W.SortsAt X.prog X.w X.A.in1.in1 { s1 with heap := PySem.W.sortingHeap (s1.heap.push (PyProof.Rows.seqObj "list" us.toArray 0)) s1.heap.objs.size us, toks := s1.toks } (PySem.W.dataKind (PySem.W.sortingHeap (s1.heap.push (PyProof.Rows.seqObj "list" us.toArray 0)) s1.heap.objs.size us) ds) us :=
    PySem.W.SortsAt.data (s := { s1 with heap := PySem.W.sortingHeap (s1.heap.push (PyProof.Rows.seqObj "list" us.toArray 0)) s1.heap.objs.size us, toks := s1.toks }) er hal hk fun d hm => by
      have h1 := hd d hm
      have h2 : X.A.in1.in1.units ≤ X.A.units + 2 := by
        first | rfl | exact Nat.le_refl _ | decide
      omega
  refine wpAny_bind (wpAny_holding (PySem.wpAny_call_entry PyProof.Rows.slot_list_sort ⟨_, hoL, rfl⟩ PyProof.Rows.entry_list_sort (PySem.W.list_sort_vals (s := { s1 with heap := s1.heap.push (PyProof.Rows.seqObj "list" us.toArray 0), toks := s1.toks }) hoL S (by rw [hl]; exact hz) ?_) (PyProof.Rows.args_list_sort _)))
  refine ⟨_, rfl, wpAny_pure ⟨_, rfl, ?_⟩⟩
  have eo := PySem.W.sortVals_data (enc := fun d : D => d) false eR er (by rw [List.map_id']; exact hal)
  rw [List.map_id'] at eo
  obtain ⟨zs, rz, pz⟩ := paired_out eo
  generalize hO : PySem.W.sortVals (PySem.W.dataKind (PySem.W.sortingHeap (s1.heap.push (PyProof.Rows.seqObj "list" us.toArray 0)) s1.heap.objs.size us) ds) false us us = out at rz ⊢
  obtain ⟨n, hat⟩ := PyProof.Rows.sortedHeap_at (vs := us) (out := out.toArray) hoL
  have hlt : s1.heap.objs.size < (s1.heap.push (PyProof.Rows.seqObj "list" us.toArray 0)).objs.size := Heap.lt_size hoL
  have kp : ∀ b o, s1.heap.get? b = some o → (PyProof.Rows.sortedHeap (s1.heap.push (PyProof.Rows.seqObj "list" us.toArray 0)) s1.heap.objs.size us out.toArray).get? b = some o := fun b o e => by
    have hb : b < s1.heap.objs.size := Heap.lt_size e
    rw [PyProof.Rows.sortedHeap_old (Nat.ne_of_lt hb) (Nat.lt_trans hb hlt)]
    exact Heap.get?_push_of_some _ e
  refine ⟨.ref s1.heap.objs.size, upd H s1.heap.objs.size (.lst zs), I.laid (t' := s1.toks) kp (Nat.le_refl _) ⟨?_, out, n, rz, hat⟩, rfl, q _ zs hn pz⟩
  rw [pz.length, List.length_mergeSort]
  exact hz

theorem setGO_get {a : Addr} {S : Key → Bool} {n : Nat} (I : Inv X pins σ H s) (ha : H a = some (SetGO X.prog X.w a S n)) : SetG X.prog X.w s.heap a S n := (I.hok a _ ha).1
theorem vals_keys : ∀ {ks : List Key} {us : List Value}, ks.length = us.length → (∀ (i : Nat) (v : Value), us[i]? = some v → ∃ k, ks[i]? = some k ∧ keyIs k v = true) → Vals (ks.map kV) us
  | [], [], _, _ => .nil
  | [], _ :: _, h, _ => by cases h
  | _ :: _, [], h, _ => by cases h
  | k :: ks, u :: us, h, z => by
    obtain ⟨k', e, hk⟩ := z 0 u rfl
    cases e
    exact .cons (kV_of hk) (vals_keys (Nat.succ.inj h) fun i v e => z (i + 1) v e)
theorem col_setG (hc : X.calm = true) {a : Addr} {ks : List Key} {n : Nat} (I : Inv X pins σ H s) (ha : H a = some (SetGO X.prog X.w a (fun j => inK ks j) n)) :
    Col2 X pins σ s (.ref a) fun H2 ys => H2 = H ∧ ∃ ks' : List Key, ks'.Perm (dedK ks) ∧ ys = ks'.map kV := fun R E k => by
  obtain ⟨o, es, ep, t, ho, hex, hd, g, nd, hm, hb, hf, hn, hr, hl⟩ := setGO_get I ha
  have hsub : o.cls = .type "set" := hex.1
  refine collect_set (by simp [I.ok.hd hc]) (show SetAt s.heap a es ep t from ⟨o, ho, hsub, hd⟩) hf hb hr hl fun s' out kp hz hg ho' pm => ?_
  have e : s' = { s with heap := s'.heap, gens := s'.gens, drawn := s'.drawn, toks := s'.toks } := by
    cases s'
    cases s
    cases ho'
    rfl
  have J : Inv X pins σ H { s with heap := s'.heap, gens := s'.gens, drawn := s'.drawn, toks := s'.toks } :=
    I.call (ch := []) (Un.kept kp) (I.hok.kept kp) (by rw [hg]; exact I.bare) (fun _ z => nomatch z)
  rw [← e] at J
  have pk : (out.map kof).Perm (es.toList.map kE) := by
    have := pm.map kof
    rwa [List.map_map] at this
  refine k out ((out.map kof).map kV) H s' (vals_keys (by rw [List.length_map]) fun i v e => ?_) J ⟨rfl, out.map kof, pk.trans (nd_perm nd (dedK_nd ks) fun k => by rw [← hm k, inK_iff, dedK_mem]), rfl⟩
  have hv : v ∈ es.toList.map (·.2) := pm.mem_iff.mp (List.mem_of_getElem? e)
  obtain ⟨x, hx, rfl⟩ := List.mem_map.mp hv
  obtain ⟨kk, h1, _⟩ := g x hx
  exact ⟨kk, by rw [List.getElem?_map, e]; exact congrArg some (kof_is h1), h1⟩

end
def keyD : D → Option Key
  | .int i => some (.inl i)
  | .str x => some (.inr x)
  | _ => none
def keysD : List D → Option (List Key)
  | [] => some []
  | d :: ds => (keyD d).bind fun k => (keysD ds).bind fun ks => some (k :: ks)
theorem keyD_of {d : D} {k : Key} (h : keyD d = some k) : d = kD k := by
  unfold keyD at h
  split at h <;> cases h <;> rfl
theorem keysD_of : ∀ {ds : List D} {ks : List Key}, keysD ds = some ks → ds = ks.map kD
  | [], _, h => by cases h; rfl
  | d :: ds, _, h => by
    obtain ⟨k, h1, h⟩ := Option.bind_eq_some_iff.mp h
    obtain ⟨ks, h2, h⟩ := Option.bind_eq_some_iff.mp h
    cases h
    rw [keyD_of h1, keysD_of h2]
    rfl
theorem keysD_rep {K : PySem.W.Frag} {G : Hp} : ∀ {ks : List Key} {xs : List V}, Reps K G xs (ks.map kD) → xs = ks.map kV
  | [], _, h => by cases h; rfl
  | k :: ks, _, h => by
    cases h with
    | cons r h =>
      rw [keysD_rep h]
      cases k with
      | inl i => cases r; rfl
      | inr x => cases r; rfl
theorem reps_ofK {K : PySem.W.Frag} {G : Hp} : ∀ ks : List Key, Reps K G (ks.map kV) (ks.map kD)
  | [] => .nil
  | k :: ks => .cons (by cases k; exact .int _; exact .str _) (reps_ofK ks)
theorem dp_ofK {K : PySem.W.Frag} {G : Hp} : ∀ ks : List Key, DpAll K G (ks.map kV) (ks.map kD)
  | [] => .nil
  | k :: ks => .cons (by cases k; exact .int _; exact .str _) (dp_ofK ks)
theorem reps_ind {K : PySem.W.Frag} {G G' : Hp} : ∀ {xs : List V} {ys : List D}, Reps K G' xs ys → (∀ d ∈ ys, ∃ k, d = kD k) → Reps K G xs ys
  | _, _, .nil, _ => .nil
  | _, _, .cons r t, hm => by
    refine .cons ?_ (reps_ind t fun d hd => hm d (List.mem_cons_of_mem _ hd))
    obtain ⟨k, rfl⟩ := hm _ (List.mem_cons_self ..)
    cases k with
    | inl i => cases r; exact .int _
    | inr x => cases r; exact .str _
/-! all ints, or all texts -/
def kInt : Key → Bool
  | .inl _ => true
  | .inr _ => false
def oneKind (ks : List Key) : Bool := ks.all kInt || ks.all fun k => !kInt k
theorem kInts : ∀ {ks : List Key}, ks.all kInt = true → ∃ ns : List Int, ks = ns.map .inl
  | [], _ => ⟨[], rfl⟩
  | k :: ks, h => by
    rw [List.all_cons, Bool.and_eq_true] at h
    obtain ⟨ns, e⟩ := kInts h.2
    cases k with
    | inl i => exact ⟨i :: ns, by rw [e]; rfl⟩
    | inr x => exact nomatch h.1
theorem kStrs : ∀ {ks : List Key}, (ks.all fun k => !kInt k) = true → ∃ ns : List Str, ks = ns.map .inr
  | [], _ => ⟨[], rfl⟩
  | k :: ks, h => by
    rw [List.all_cons, Bool.and_eq_true] at h
    obtain ⟨ns, e⟩ := kStrs h.2
    cases k with
    | inl i => exact nomatch h.1
    | inr x => exact ⟨x :: ns, by rw [e]; rfl⟩
theorem dl_int (a b : Int) : PySem.W.dataLe false (fun d : D => d) (.int a) (.int b) = decide (a ≤ b) :=
  (show PySem.W.dataLe false (fun d : D => d) (.int a) (.int b) = PySem.W.dataLe false (fun n : Int => PyData.int n) a b from rfl).trans (congrFun (congrFun (PySem.W.dataLe_int fun n : Int => n) a) b)
theorem dl_str (a b : Str) : PySem.W.dataLe false (fun d : D => d) (.str a) (.str b) = decide (a.cps.toList ≤ b.cps.toList) :=
  (show PySem.W.dataLe false (fun d : D => d) (.str a) (.str b) = PySem.W.dataLe false (fun n : Str => PyData.str n) a b from rfl).trans (congrFun (congrFun (PySem.W.dataLe_str fun n : Str => n) a) b)
theorem srt_ints (ns : List Int) : srtD (ns.map .int) = (ns.mergeSort fun a b => decide (a ≤ b)).map .int := by
  unfold srtD
  rw [List.map_mergeSort (s := PySem.W.dataLe false fun d : D => d)]
  intro a _ b _
  exact (dl_int a b).symm
theorem srt_strs (ns : List Str) : srtD (ns.map .str) = (ns.mergeSort fun a b => decide (a.cps.toList ≤ b.cps.toList)).map .str := by
  unfold srtD
  rw [List.map_mergeSort (s := PySem.W.dataLe false fun d : D => d)]
  intro a _ b _
  exact (dl_str a b).symm
theorem str_of_cps {a b : Str} (h : a.cps.toList = b.cps.toList) : a = b := by
  cases a; cases b
  exact congrArg Str.mk (Array.toList_inj.mp h)
theorem ints_perm {xs ys : List Int} (p : xs.Perm ys) : (xs.mergeSort fun a b => decide (a ≤ b)) = ys.mergeSort fun a b => decide (a ≤ b) := by
  refine List.Perm.eq_of_pairwise (le := fun a b => decide (a ≤ b) = true) (fun a b _ _ h1 h2 => Int.le_antisymm (of_decide_eq_true h1) (of_decide_eq_true h2)) ?_ ?_ ((List.mergeSort_perm _ _).trans (p.trans (List.mergeSort_perm _ _).symm))
  all_goals exact List.pairwise_mergeSort (le := fun a b : Int => decide (a ≤ b)) (fun a b c h1 h2 => decide_eq_true (Int.le_trans (of_decide_eq_true h1) (of_decide_eq_true h2))) (fun a b => by simpa using Int.le_total a b) _
theorem strs_perm {xs ys : List Str} (p : xs.Perm ys) : (xs.mergeSort fun a b => decide (a.cps.toList ≤ b.cps.toList)) = ys.mergeSort fun a b => decide (a.cps.toList ≤ b.cps.toList) := by
  refine List.Perm.eq_of_pairwise (le := fun a b : Str => decide (a.cps.toList ≤ b.cps.toList) = true) (fun a b _ _ h1 h2 => str_of_cps (List.le_antisymm (of_decide_eq_true h1) (of_decide_eq_true h2))) ?_ ?_ ((List.mergeSort_perm _ _).trans (p.trans (List.mergeSort_perm _ _).symm))
  all_goals exact List.pairwise_mergeSort (le := fun a b : Str => decide (a.cps.toList ≤ b.cps.toList)) (fun a b c h1 h2 => decide_eq_true (List.le_trans (of_decide_eq_true h1) (of_decide_eq_true h2))) (fun a b => by simpa using List.le_total a.cps.toList b.cps.toList) _
theorem srt_perm {ks ks' : List Key} (p : ks'.Perm ks) (o : oneKind ks = true) : srtD (ks'.map kD) = srtD (ks.map kD) := by
  have all' : ∀ f : Key → Bool, ks.all f = true → ks'.all f = true := fun f h => List.all_eq_true.mpr fun k hk => List.all_eq_true.mp h k (p.mem_iff.mp hk)
  unfold oneKind at o
  rw [Bool.or_eq_true] at o
  rcases o with o | o
  · obtain ⟨ns, e⟩ := kInts o
    obtain ⟨ms, e'⟩ := kInts (all' _ o)
    subst e e'
    have q : ms.Perm ns := by
      have := p.filterMap fun k : Key => match k with
        | .inl i => some i
        | .inr _ => none
      simpa [List.filterMap_map, Function.comp_def] using this
    rw [List.map_map, List.map_map, show kD ∘ Sum.inl = PyData.int from rfl, srt_ints, srt_ints, ints_perm q]
  · obtain ⟨ns, e⟩ := kStrs o
    obtain ⟨ms, e'⟩ := kStrs (all' _ o)
    subst e e'
    have q : ms.Perm ns := by
      have := p.filterMap fun k : Key => match k with
        | .inr i => some i
        | .inl _ => none
      simpa [List.filterMap_map, Function.comp_def] using this
    rw [List.map_map, List.map_map, show kD ∘ Sum.inr = PyData.str from rfl, srt_strs, srt_strs, strs_perm q]
theorem sortOk_keys {ks : List Key} (o : oneKind ks = true) (hz : ks.length ≤ 1000) : sortOk (ks.map kD) = true := by
  have sz : (1000 : Nat) ≤ sizeLine := by rw [sizeLine_eq]; decide
  unfold oneKind at o
  rw [Bool.or_eq_true] at o
  unfold sortOk
  rw [Bool.and_eq_true, Bool.and_eq_true, Bool.and_eq_true, Bool.or_eq_true]
  refine ⟨⟨⟨decide_eq_true (by rw [List.length_map]; omega), ?_⟩, .inr ?_⟩, ?_⟩
  · rcases o with o | o
    · obtain ⟨ns, rfl⟩ := kInts o
      simp [List.all_eq_true, kD, PySem.W.alike]
    · obtain ⟨ns, rfl⟩ := kStrs o
      simp [List.all_eq_true, kD, PySem.W.alike]
  · rw [List.all_eq_true]
    intro d hd
    obtain ⟨k, _, rfl⟩ := List.mem_map.mp hd
    cases k <;> rfl
  · rw [List.all_eq_true]
    intro d hd
    obtain ⟨k, _, rfl⟩ := List.mem_map.mp hd
    cases k <;> rfl
theorem oneKind_perm {ks ks' : List Key} (p : ks'.Perm ks) (o : oneKind ks = true) : oneKind ks' = true := by
  have all' : ∀ f : Key → Bool, ks.all f = true → ks'.all f = true := fun f h => List.all_eq_true.mpr fun k hk => List.all_eq_true.mp h k (p.mem_iff.mp hk)
  unfold oneKind at o ⊢
  rw [Bool.or_eq_true] at o ⊢
  exact o.imp (all' _) (all' _)
theorem dedK_len : ∀ ks : List Key, (dedK ks).length ≤ ks.length
  | [] => Nat.le_refl _
  | k :: ks => Nat.succ_le_succ (Nat.le_trans (List.length_filter_le ..) (dedK_len ks))
def rSortSetG (P : Program) (w : World) (K : PySem.W.Frag) : List V → Hp → VK → Prop := fun vs H Q => ∃ (a : Addr) (ks : List Key) (n : Nat), vs = [.ref a] ∧ H a = some (SetGO P w a (fun j => inK ks j) n) ∧ oneKind (dedK ks) = true ∧ ks.length ≤ 1000 ∧
  ∀ p zs, H p = none → Paired (Rep K H) zs (srtD ((dedK ks).map kD)) → Q (.ref p) (upd H p (.lst zs))
section
variable {X : Cx} {e : Expr} {p1 p2 pos pos2 : Pos}
theorem cr_sortSetG (hc : X.calm = true) (hu : X.A.units + 64 < cLine) : CallR X (.builtin "sorted") (rSortSetG X.prog X.w X.K) := by
  intro pins s σ H xs us Q I r ⟨a, ks, n, e, ha, ok, hz, q⟩
  subst e
  rw [Vals.ref1 r]
  refine sort_run2 hu (col_setG hc I ha) fun H' ys hh => ?_
  obtain ⟨rfl, ks', pm, rfl⟩ := hh
  have rr : Reps X.K H' (ks'.map kV) (ks'.map kD) := reps_ofK ks'
  refine ⟨ks'.map kD, sortOk_keys (oneKind_perm pm ok) (by rw [pm.length_eq]; exact Nat.le_trans (dedK_len ks) hz), dp_ofK ks', Rep X.K H', reps_pair rr, fun p zs hp pz => q p zs hp ?_⟩
  rwa [← srt_perm pm ok]
def dSortSetK : List D → Option (D × Bool)
  | [d] => (lstD d).bind fun ds => (keysD ds).bind fun ks => if ks.length ≤ 1000 ∧ oneKind ks = true then some (.list (srtD ((dedK ks).map kD)), true) else none
  | _ => none
theorem oneKind_ded {ks : List Key} (o : oneKind ks = true) : oneKind (dedK ks) = true := by
  have all' : ∀ f : Key → Bool, ks.all f = true → (dedK ks).all f = true := fun f h => List.all_eq_true.mpr fun k hk => List.all_eq_true.mp h k (dedK_mem.mp hk)
  unfold oneKind at o ⊢
  rw [Bool.or_eq_true] at o ⊢
  exact o.imp (all' _) (all' _)
theorem fe_sortSetK {l : Av} (hc : X.calm = true) (hu : X.A.units + 64 < cLine) (hm1 : X.mg "sorted" = none) (hm2 : X.mg "set" = none) (ha : PA X [e] (FA X.K l)) (hg1 : Gl X "sorted" := by rfl) (hg2 : Gl X "set" := by rfl) (n1 : starEach [e] X.env = (false, eval e X.env) :: starEach [] X.env := by rfl)
    (n2 : starEach [.Call (.Name "set" p2) [e] [] pos2] X.env = (false, eval (.Call (.Name "set" p2) [e] [] pos2) X.env) :: starEach [] X.env := by rfl) : PE X (.Call (.Name "sorted" p1) [.Call (.Name "set" p2) [e] [] pos2] [] pos) (FE X.K (fN l dSortSetK)) :=
  pe_imp (pe_callB (cr_sortSetG hc hu) hg1 hm1 PyProof.Rows.boot_sorted (pa_cons (pe_callTy (cr_setGL hc) hg2 hm2 PyProof.Rows.boot_set ha (by decide) (by decide) n1 rfl) pa_nil n2) (by decide) (by decide) n2 rfl) fun σ H Q h => by
    refine tN_of (r := fun vs H Q => rSetGL X.K X.prog X.w vs H fun v H1 => rSortSetG X.prog X.w X.K [v] H1 Q) ?_ h
    intro vs ds z b G H Q s u hg k
    unfold dSortSetK at hg
    split at hg
    · obtain ⟨es, h1, hg⟩ := Option.bind_eq_some_iff.mp hg
      obtain ⟨ks, h2, hg⟩ := Option.bind_eq_some_iff.mp hg
      obtain ⟨⟨h3, h4⟩, hg⟩ := ite_some hg
      cases hg
      obtain ⟨v, rfl, u0⟩ := u.one
      have fin : ∀ p, H p = none → rSortSetG X.prog X.w X.K [V.ref p] (upd H p (SetGO X.prog X.w p (fun j => inK ks j) (dedK ks).length)) Q := fun p hp => by
        refine ⟨p, ks, _, rfl, upd_same, oneKind_ded h4, h3, fun q zs hq pz => ?_⟩
        have N := New.own (o := SetGO X.prog X.w p (fun j => inK ks j) (dedK ks).length) s hp
        have N2 := New.own (o := .lst zs) N.sub hq
        have hq0 : H q = none := N.ext.t q hq
        have rz : Reps X.K G zs (srtD ((dedK ks).map kD)) := by
          have pr := pair_reps pz
          have hm : ∀ d ∈ srtD ((dedK ks).map kD), ∃ k, d = kD k := fun d hd => by
            have := (List.mergeSort_perm _ _).mem_iff.mp hd
            obtain ⟨k, _, e⟩ := List.mem_map.mp this
            exact ⟨k, e.symm⟩
          exact reps_ind pr hm
        exact k _ _ _ ⟨N.ext.trans N2.ext fun _ z => z.elim, N2.sub⟩ ⟨q, _, rfl, .inl hq0, fun z => z, upd_same, s.free hq0, .lst rz⟩
      have e2 := keysD_of h2
      unfold lstD at h1
      split at h1
      · cases h1
        obtain ⟨a, xs, rfl, h, r⟩ := u0.list s
        subst e2
        exact ⟨a, ks, rfl, .inl (keysD_rep r ▸ h), h3, fin⟩
      · cases h1
        obtain ⟨a, xs, rfl, h, r⟩ := u0.tuple s
        subst e2
        exact ⟨a, ks, rfl, .inr (keysD_rep r ▸ h), h3, fin⟩
      · cases h1
    · cases hg
end
end Fx
/-! Fx32: zip of lists and tuples in any mix. -/
namespace Fx
open PySem PySem.Spec L2
/-- a tuple (t) or a list -/
def SqB (K : PySem.W.Frag) (t : Bool) (H : Hp) (a : Addr) (xs : List V) : Prop := if t then SqT K H a xs else SqL K H a xs
def itB (t : Bool) (h : Heap) (it a : Addr) (i : Nat) : Prop := if t then h.IsTupleIter it a i else h.IsListIter it a i
def isB (t : Bool) (h : Heap) (a : Addr) (vs : Array Value) : Prop := if t then h.IsTuple a vs else h.IsList a vs
theorem sqB_vals {X : Cx} {pins : List (Addr × Obj)} {σ : St} {H : Hp} {s : Shared} (I : Inv X pins σ H s) : ∀ {t : Bool} {a : Addr} {xs : List V}, SqB X.K t H a xs → ∃ its : List Value, Vals xs its ∧ isB t s.heap a its.toArray
  | true, a, xs, h => by
    obtain ⟨its, r, p, _⟩ := I.tuple (show SqT X.K H a xs from h)
    exact ⟨its, r, p⟩
  | false, a, xs, h => by
    obtain ⟨its, r, p, _⟩ := I.list (show SqL X.K H a xs from h)
    exact ⟨its, r, p.isList⟩
theorem sqB_inj {X : Cx} {pins : List (Addr × Obj)} {σ : St} {H : Hp} {s : Shared} (I : Inv X pins σ H s) : ∀ {t : Bool} {a : Addr} {xs ys : List V}, SqB X.K t H a xs → SqB X.K t H a ys → xs = ys
  | true, a, xs, ys, h, h' => I.tuple_inj (show SqT X.K H a xs from h) (show SqT X.K H a ys from h')
  | false, a, xs, ys, h, h' => I.list_inj (show SqL X.K H a xs from h) (show SqL X.K H a ys from h')
theorem itB_at {t : Bool} {h h' : Heap} {it a : Addr} {i : Nat} (st : itB t h it a i) (k : ∀ o, h.get? it = some o → h'.get? it = some o) : itB t h' it a i := by
  cases t
  · exact Heap.IsListIter.at (show h.IsListIter it a i from st) k
  · exact Heap.IsTupleIter.at (show h.IsTupleIter it a i from st) k
theorem isB_at {t : Bool} {h h' : Heap} {a : Addr} {vs : Array Value} (st : isB t h a vs) (k : ∀ o, h.get? a = some o → h'.get? a = some o) : isB t h' a vs := by
  cases t
  · exact Heap.IsList.at (show h.IsList a vs from st) k
  · exact Heap.IsTuple.at (show h.IsTuple a vs from st) k
theorem itB_obj {t : Bool} {h : Heap} {it a : Addr} {i : Nat} (st : itB t h it a i) : ∃ o, h.get? it = some o ∧ ∀ v, o.data ≠ .cell v := by
  cases t
  · obtain ⟨o, e, _, d⟩ := (show h.IsListIter it a i from st)
    exact ⟨o, e, fun v q => by rw [d] at q; cases q⟩
  · obtain ⟨o, e, _, d⟩ := (show h.IsTupleIter it a i from st)
    exact ⟨o, e, fun v q => by rw [d] at q; cases q⟩
theorem isB_lt {t : Bool} {h : Heap} {a : Addr} {vs : Array Value} (st : isB t h a vs) : a < h.objs.size := by
  cases t
  · obtain ⟨o, e, _⟩ := (show h.IsList a vs from st)
    exact Heap.lt_size e
  · obtain ⟨o, e, _⟩ := (show h.IsTuple a vs from st)
    exact Heap.lt_size e
section
variable {P : Program} {w : World} {A : Around}
theorem drawsB (hh : A.handled = none) (t : Bool) (it a : Addr) (hne : a ≠ it) (vs : Array Value) :
    Draws P w A it [it, a] vs.size (fun i v => vs[i]? = some v) (fun i h => itB t h it a i ∧ isB t h a vs) := by
  cases t
  · exact Draws.list hh it a hne vs
  · exact Draws.tuple hh it a hne vs
/-- at its end, wherever that is -/
theorem drawsE (hh : A.handled = none) (t : Bool) (it a : Addr) (n : Nat) (vs : Array Value) (hn : vs[n]? = none) :
    Draws P w A it [it, a] n (fun _ _ => True) (fun i h => i = n ∧ itB t h it a n ∧ isB t h a vs) where
  live := fun _ _ st => let ⟨o, e, _⟩ := itB_obj st.2.1; ⟨o, e⟩
  frame := fun _ _ _ st hk => ⟨st.1, itB_at st.2.1 fun o e => hk it (by simp) o e, isB_at st.2.2 fun o e => hk a (by simp) o e⟩
  item := fun i s Q E hi st hQ => absurd hi (by rw [st.1]; exact Nat.lt_irrefl _)
  done := fun s Q E st hE => by
    cases t
    · exact wpAny_nextOf_list_end hh (show s.heap.IsListIter it a n from st.2.1) (show s.heap.IsList a vs from st.2.2) hn hE
    · exact wpAny_nextOf_tuple_end hh (show s.heap.IsTupleIter it a n from st.2.1) (show s.heap.IsTuple a vs from st.2.2) hn hE
end
theorem sepOf {z TI TO i1 i2 a b : Addr} (D : ZipApart z TI TO i1 i2 a b) : ZipSep2 z TI TO i1 i2 [i1, a] [i2, b] where
  TIz := D.TIz
  TOz := D.TOz
  TITO := D.TITO
  TIi1 := D.TIi1
  mem1 := by simp
  zf1 := by
    have h1 := D.i1z.symm
    have h2 := D.l1z.symm
    simp [h1, h2]
  Tf1 := by
    have h1 := D.TOi1
    have h2 := D.l1TO.symm
    simp [h1, h2]
  TIi2 := D.TIi2
  mem2 := by simp
  zf2 := by
    have h1 := D.i2z.symm
    have h2 := D.l2z.symm
    simp [h1, h2]
  Tf2 := by
    have h1 := D.TOi2
    have h2 := D.l2TO.symm
    simp [h1, h2]
  sep1_2 := by
    have h1 := D.i12
    have h2 := D.l2i1.symm
    simp [h1, h2]
  sep2_1 := by
    have h1 := D.i12.symm
    have h2 := D.l1i2.symm
    simp [h1, h2]
def ItzB (K : PySem.W.Frag) (t1 t2 : Bool) (a b : Addr) : It :=
  ⟨fun i H => ∃ (xs ys : List V) (x y : V), SqB K t1 H a xs ∧ SqB K t2 H b ys ∧ xs[i]? = some x ∧ ys[i]? = some y,
    fun i H v H' => ∃ T x y, v = .ref T ∧ H T = none ∧ H' = upd H T (.tup [x, y]) ∧ (∀ xs, SqB K t1 H a xs → xs[i]? = some x) ∧ ∀ ys, SqB K t2 H b ys → ys[i]? = some y,
    fun i H => ∃ xs ys : List V, SqB K t1 H a xs ∧ SqB K t2 H b ys ∧ (xs.length ≤ i ∨ ys.length ≤ i)⟩
abbrev five (z TI TO i1 i2 : Addr) : List Addr := [z, TI, TO, i1, i2]
theorem turn_zipB {P : Program} {w : World} {K : PySem.W.Frag} {elts : List Expr} {kk : Nat} {tpos : Pos} {a b z TI TO i1 i2 : Addr} {t1 t2 : Bool} (D : ZipApart z TI TO i1 i2 a b) :
    Turn P w K (.Tuple elts kk tpos) (ItzB K t1 t2 a b) (five z TI TO i1 i2) z (fun i h => IsZip h z TI TO .none ∧ IsTupOf2 h TI (.ref i1) (.ref i2) ∧ (∃ x y, IsTupOf2 h TO x y) ∧ itB t1 h i1 a i ∧ itB t2 h i2 b i) where
  mem := by simp
  obj := fun i h st c hc => by
    obtain ⟨hz, hTI, ⟨x, y, hTO⟩, h1, h2⟩ := st
    have e' : c = z ∨ c = TI ∨ c = TO ∨ c = i1 ∨ c = i2 := by simpa using hc
    rcases e' with q | q | q | q | q
    · rw [q]; exact ⟨_, hz, fun v q => nomatch q⟩
    · rw [q]; exact ⟨_, hTI, fun v q => nomatch q⟩
    · rw [q]; exact ⟨_, hTO, fun v q => nomatch q⟩
    · rw [q]; exact itB_obj h1
    · rw [q]; exact itB_obj h2
  keep := fun i h h' ⟨hz, hTI, ⟨x, y, hTO⟩, h1, h2⟩ k =>
    ⟨k z (by simp) _ hz, k TI (by simp) _ hTI, ⟨x, y, k TO (by simp) _ hTO⟩, itB_at h1 fun o q => k i1 (by simp) o q, itB_at h2 fun o q => k i2 (by simp) o q⟩
  item := by
    intro X hP hw hK hc i pins s σ H E I hf st hg
    subst hP hw hK
    obtain ⟨hz, hTI, ⟨x0, y0, hTO⟩, h1, h2⟩ := st
    obtain ⟨xs, ys, x, y, hqx, hqy, hx, hy⟩ := hg
    obtain ⟨its, rv, p⟩ := sqB_vals I hqx
    obtain ⟨its2, rv2, p2⟩ := sqB_vals I hqy
    obtain ⟨u, hu, ru⟩ := rv.get hx
    obtain ⟨u2, hu2, ru2⟩ := rv2.get hy
    have hzl : z < s.heap.objs.size := Heap.lt_size hz
    have nh : X.A.in1.handled = none := by simp [I.ok.hd hc]
    have l1 := (List.getElem?_eq_some_iff.mp hu).1
    have l2 := (List.getElem?_eq_some_iff.mp hu2).1
    refine wpAny_pyNext_zipD2_item (sepOf D) (drawsB nh t1 i1 a D.l1i1 its.toArray) (drawsB nh t2 i2 b D.l2i2 its2.toArray) hz hTI hTO ⟨h1, p⟩ ⟨h2, p2⟩ (by simpa using l1) (by simpa using l2) fun y1 y2 h' tk e1 e2 z' TO' d1 d2 hT hsz hk => ?_
    have ey1 : y1 = u := by simpa [hu] using e1.symm
    have ey2 : y2 = u2 := by simpa [hu2] using e2.symm
    subst ey1 ey2
    refine ⟨_, rfl, wpAny_letOwnedTupleGo_zip (s := { s with heap := h', toks := tk }) z' fun h'' z'' sb => ?_⟩
    have hT2 : h''.get? s.heap.objs.size = some { cls := .type "tuple", data := .seq #[y1, y2] } := (sb.2 _ (Nat.ne_of_gt hzl)).trans hT
    have new : ObjOk X.prog X.w (upd H s.heap.objs.size (.tup [x, y])) h'' s.heap.objs.size (.tup [x, y]) :=
      ⟨by show 2 ≤ sizeLine; decide, [y1, y2], .cons ru (.cons ru2 .nil), ⟨_, hT2, rfl, _, rfl⟩⟩
    have I1 : Inv X pins σ (upd H s.heap.objs.size (.tup [x, y])) { s with heap := h'', toks := tk } :=
      I.turnedNew (t' := tk) (ch := five z TI TO i1 i2) (fun c o hb q => (sb.2 c (fun q' => hb (by simp [q']))).trans (hk c o (fun q' => hb (by simp [q'])) (fun q' => hb (by simp [q'])) (fun q' => hb (by simp [q'])) (fun q' => hb (by simp [q'])) q)) hf (Nat.le_refl _) new
    refine ⟨.ref s.heap.objs.size, _, I1, rfl, ⟨_, x, y, rfl, I.hok.fresh (Nat.le_refl _), rfl, fun l hl => by rw [sqB_inj I hl hqx]; exact hx, fun l hl => by rw [sqB_inj I hl hqy]; exact hy⟩, ⟨z'', ?_, ⟨y1, y2, ?_⟩, ?_, ?_⟩, fun c hcm => ?_⟩
    · exact (sb.2 _ D.TIz).trans (hk _ _ D.TIz D.TITO D.TIi1 D.TIi2 hTI)
    · exact (sb.2 _ D.TOz).trans TO'
    · exact itB_at d1.1 fun o q => (sb.2 _ D.i1z).trans q
    · exact itB_at d2.1 fun o q => (sb.2 _ D.i2z).trans q
    · have hlt : c < s.heap.objs.size := by
        have e' : c = z ∨ c = TI ∨ c = TO ∨ c = i1 ∨ c = i2 := by simpa using hcm
        rcases e' with q | q | q | q | q
        · rw [q]; exact hzl
        · rw [q]; exact Heap.lt_size hTI
        · rw [q]; exact Heap.lt_size hTO
        · rw [q]; obtain ⟨_, e1, _⟩ := itB_obj h1; exact Heap.lt_size e1
        · rw [q]; obtain ⟨_, e2, _⟩ := itB_obj h2; exact Heap.lt_size e2
      rw [upd_ne (Nat.ne_of_lt hlt)]
      exact (hf c hcm).1
  done := by
    intro X hP hw hK hc i pins s σ H E I hf st hg
    subst hP hw hK
    obtain ⟨hz, hTI, ⟨x0, y0, hTO⟩, h1, h2⟩ := st
    obtain ⟨xs, ys, hqx, hqy, hend⟩ := hg
    obtain ⟨its, rv, p⟩ := sqB_vals I hqx
    obtain ⟨its2, rv2, p2⟩ := sqB_vals I hqy
    have e1 := rv.length
    have e2 := rv2.length
    have nh : X.A.in1.handled = none := by simp [I.ok.hd hc]
    have fin : ∀ (h' : Heap) (tk : Nat), (∀ c o, c ≠ z → c ≠ TO → c ≠ i1 → c ≠ i2 → s.heap.get? c = some o → h'.get? c = some o) → (none : Option Value) = none ∧ Inv X pins σ H { s with heap := h', toks := tk } := fun h' tk hk =>
      ⟨rfl, I.turnedL (t' := tk) (ch := five z TI TO i1 i2) (fun c o hb q => hk c o (fun q' => hb (by simp [q'])) (fun q' => hb (by simp [q'])) (fun q' => hb (by simp [q'])) (fun q' => hb (by simp [q'])) q) hf⟩
    by_cases hl : xs.length ≤ i
    · by_cases hl2 : ys.length ≤ i
      · exact wpAny_pyNext_zipD2_end (sepOf D) (drawsE nh t1 i1 a i its.toArray (by simp; omega)) (drawsE nh t2 i2 b i its2.toArray (by simp; omega)) hz hTI hTO ⟨rfl, h1, p⟩ ⟨rfl, h2, p2⟩ (Nat.le_refl _) (Nat.le_refl _) (.inl rfl) fun h' tk hk => fin h' tk hk
      · exact wpAny_pyNext_zipD2_end (sepOf D) (drawsE nh t1 i1 a i its.toArray (by simp; omega)) (drawsB nh t2 i2 b D.l2i2 its2.toArray) hz hTI hTO ⟨rfl, h1, p⟩ ⟨h2, p2⟩ (Nat.le_refl _) (by simp; omega) (.inl rfl) fun h' tk hk => fin h' tk hk
    · have hl2 : ys.length ≤ i := hend.resolve_left hl
      exact wpAny_pyNext_zipD2_end (sepOf D) (drawsB nh t1 i1 a D.l1i1 its.toArray) (drawsE nh t2 i2 b i its2.toArray (by simp; omega)) hz hTI hTO ⟨h1, p⟩ ⟨rfl, h2, p2⟩ (by simp; omega) (Nat.le_refl _) (.inr rfl) fun h' tk hk => fin h' tk hk
  self := fun A i s Q E st h => wpAny_pyIter_zip st.1 h
def iZipB (K : PySem.W.Frag) (ta : TA) : TI := fun σ H R => ta σ H fun vs H1 => ∃ (a b : Addr) (t1 t2 : Bool) (xs ys : List V), vs = [.ref a, .ref b] ∧ SqB K t1 H1 a xs ∧ SqB K t2 H1 b ys ∧ R (ItzB K t1 t2 a b) H1
/-- how the iterator of a tuple or a list begins -/
def objB (t : Bool) (a : Addr) : Obj := if t then { cls := .type "tuple_iterator", data := .fields #[.ref a, .int 0 0] } else { cls := .type "list_iterator", data := .fields #[.ref a, .int 0 0] }
theorem beginsB (t : Bool) (a : Addr) (vs : Array Value) : Begins (.ref a) (objB t a) fun h => isB t h a vs := by
  cases t
  · exact begins_list a vs
  · exact begins_tuple a vs
theorem itB_new {t : Bool} {h : Heap} {it a : Addr} (e : h.get? it = some (objB t a)) : itB t h it a 0 := by
  cases t
  · exact ⟨_, e, rfl, rfl⟩
  · exact ⟨_, e, rfl, rfl⟩
theorem pi_zipB {X : Cx} {e e2 : Expr} {ta : TA} {p pos tpos : Pos} {elts : List Expr} {kk : Nat} (hg : Gl X "zip") (hm : X.mg "zip" = none) (ha : PA X [e, e2] ta)
    (hs : starEach [e, e2] X.env = (false, eval e X.env) :: starEach [e2] X.env := by rfl) (hpl : (backTo pos (starEach [e2] X.env)).any (·.1) = false := by rfl) :
    PI X (.Tuple elts kk tpos) (.Call (.Name "zip" p) [e, e2] [] pos) (iZipB X.K ta) := by
  refine ⟨fun pins s σ H R I h => ?_⟩
  refine PyProof.Rows.Call_ (ld_blt I hg hm PyProof.Rows.boot_zip (PyProof.Rows.callWith_type1 (thn (ha.run pos pins s σ H _ I h) fun us s1 ⟨vs, H1, I1, r1, q1⟩ => ?_) hs hpl))
  obtain ⟨a, b, t1, t2, xs, ys, ex, hqx, hqy, q⟩ := q1
  subst ex
  cases r1 with
  | cons r rr =>
    cases rr with
    | cons r' rr =>
      cases rr
      cases r
      cases r'
      obtain ⟨its, rv, p1⟩ := sqB_vals I1 hqx
      obtain ⟨its2, rv2, p2⟩ := sqB_vals I1 hqy
      refine zip_begins2 (beginsB t1 a its.toArray) (beginsB t2 b its2.toArray) p1 p2 fun h' hz hTI hTO h1 h2 hsz hk => wpAny_pyIter_zip hz ?_
      have I2 : Inv X pins σ H1 { s1 with heap := h' } := I1.kept (t' := s1.toks) hk
      refine ⟨s1.heap.objs.size + 4, five (s1.heap.objs.size + 4) (s1.heap.objs.size + 2) (s1.heap.objs.size + 3) s1.heap.objs.size (s1.heap.objs.size + 1), _, _, H1, rfl, I2,
        turn_zipB (t1 := t1) (t2 := t2) (PySem.W.ktu_apart s1.heap.objs.size a b (isB_lt p1) (isB_lt p2)), ⟨hz, hTI, ⟨_, _, hTO⟩, itB_new h1, itB_new h2⟩, fun c hcm => ?_, q⟩
      have e' : c = s1.heap.objs.size + 4 ∨ c = s1.heap.objs.size + 2 ∨ c = s1.heap.objs.size + 3 ∨ c = s1.heap.objs.size ∨ c = s1.heap.objs.size + 1 := by simpa using hcm
      have hle : s1.heap.objs.size ≤ c := by
        rcases e' with z | z | z | z | z
        · rw [z]; exact Nat.le_add_right _ _
        · rw [z]; exact Nat.le_add_right _ _
        · rw [z]; exact Nat.le_add_right _ _
        · rw [z]; exact Nat.le_refl _
        · rw [z]; exact Nat.le_add_right _ _
      exact I1.fpOk hle (I1.hok.fresh hle)
/-! ### as functions -/
def itZB (l : Lv) : Lv := fun en => (l en).bind fun x => match x.1 with
  | [d, e] => (lstD d).bind fun ds => (lstD e).bind fun es => some (zipD ds es, x.2)
  | _ => none
section
variable {X : Cx} {K : PySem.W.Frag} {G H : Hp}
theorem sqB_mono {t : Bool} {a : Addr} {xs : List V} (s : Same G H) (h : SqB K t G a xs) : SqB K t H a xs := by
  cases t
  · exact s.seq (show SqL K G a xs from h)
  · exact seqT s (show SqT K G a xs from h)
theorem jok_zipB {t1 t2 : Bool} {a b : Addr} {xs ys : List V} {ds es : List D} {G0 : Hp} (ha : SqB K t1 G0 a xs) (rx : Reps K G0 xs ds) (hb : SqB K t2 G0 b ys) (ry : Reps K G0 ys es) : JOk RepP K (ItzB K t1 t2 a b) G0 (zipD ds es) := fun i G H s1 s2 => by
  have qa := sqB_mono (s1.trans s2) ha
  have qb := sqB_mono (s1.trans s2) hb
  have la := rx.length
  have lb := ry.length
  have hl : (zipD ds es).length = min ds.length es.length := by simp [zipD]
  refine ⟨fun hi => ⟨xs, ys, qa, qb, by omega⟩, fun d hd => ?_⟩
  unfold zipD at hd
  rw [List.getElem?_map] at hd
  obtain ⟨⟨d1, d2⟩, e1, e2⟩ := Option.map_eq_some_iff.mp hd
  subst e2
  obtain ⟨h1, h2⟩ := List.getElem?_zip_eq_some.mp e1
  obtain ⟨v, v1, v2⟩ := rx.get' h1
  obtain ⟨w, w1, w2⟩ := ry.get' h2
  refine ⟨⟨xs, ys, v, w, qa, qb, v1, w1⟩, fun x H' ⟨T, x1, y1, e3, hT, e4, k1, k2⟩ => ?_⟩
  subst e3 e4
  have z1 := k1 xs qa
  have z2 := k2 ys qb
  rw [v1] at z1
  rw [w1] at z2
  cases z1
  cases z2
  exact repP_new s2 hT (.cons (v2.mono s1) (.cons (w2.mono s1) .nil))
theorem rep_sqB {v : V} {d : D} {ds : List D} (h : lstD d = some ds) (r : Rep K G v d) : ∃ (a : Addr) (t : Bool) (xs : List V), v = .ref a ∧ SqB K t G a xs ∧ Reps K G xs ds := by
  unfold lstD at h
  split at h
  · cases h
    cases r with
    | lst h1 q1 => exact ⟨_, false, _, rfl, h1, q1⟩
  · cases h
    cases r with
    | tup h1 q1 => exact ⟨_, true, _, rfl, h1.sq, q1⟩
  · cases h
theorem fi_zipB {e e2 : Expr} {l : Lv} {p pos tpos : Pos} {elts : List Expr} {kk : Nat} (hm : X.mg "zip" = none) (ha : PA X [e, e2] (FL X.K l)) (hg : Gl X "zip" := by rfl)
    (hs : starEach [e, e2] X.env = (false, eval e X.env) :: starEach [e2] X.env := by rfl) (hpl : (backTo pos (starEach [e2] X.env)).any (·.1) = false := by rfl) :
    PI X (.Tuple elts kk tpos) (.Call (.Name "zip" p) [e, e2] [] pos) (FI RepP X.K (itZB l)) :=
  pi_imp (pi_zipB hg hm ha hs hpl) fun σ H R ⟨G, en, ds, en', S, e1, k⟩ => by
    obtain ⟨⟨ds1, en1⟩, p1, e2⟩ := Option.bind_eq_some_iff.mp e1
    dsimp only at e2
    split at e2
    · obtain ⟨d1, q1, e2⟩ := Option.bind_eq_some_iff.mp e2
      obtain ⟨d2, q2, e2⟩ := Option.bind_eq_some_iff.mp e2
      cases e2
      refine ⟨G, en, _, _, S, p1, fun vs G' H' T r => ?_⟩
      cases r with
      | cons r1 r =>
        cases r with
        | cons r2 r =>
          cases r
          obtain ⟨a, t1, xs, rfl, h1, w1⟩ := rep_sqB q1 r1
          obtain ⟨b, t2, ys, rfl, h2, w2⟩ := rep_sqB q2 r2
          exact ⟨a, b, t1, t2, xs, ys, rfl, sqB_mono T.sr.sub h1, sqB_mono T.sr.sub h2, k _ _ _ T (jok_zipB h1 w1 h2 w2)⟩
    · cases e2
end
end Fx
/-! Fx33: a dict walked (its keys): it is locked as long. -/
namespace Fx
open PySem PySem.Spec L2
/-! ### the ends of a statement, at which one address may be unlocked -/
def Ul (X : Cx) (P : Hp → Prop) (H' : Hp) : Prop := P H' ∨ ∃ d od u, H' d = some (.frz od u) ∧ (∀ o' u', X.H_0 d ≠ some (.frz o' u')) ∧ P (upd H' d u)
def tUnS (X : Cx) (t : TS) : TS := fun D σ H => t ⟨fun σ' H' => Ul X (D.nx σ') H', fun v H' => Ul X (D.rt v) H', fun σ' H' => Ul X (D.bk σ') H', fun σ' H' => Ul X (D.ct σ') H'⟩ σ H
def tUnE (X : Cx) (t : TE) : TE := fun σ H Q => t σ H fun v H' => Ul X (Q v) H'
section
variable {X : Cx}
theorem ul_inv {pins : List (Addr × Obj)} {σ : St} {H : Hp} {s : Shared} {P : Hp → Prop} (I : Inv X pins σ H s) (q : Ul X P H) : ∃ H', Inv X pins σ H' s ∧ P H' := by
  rcases q with q | ⟨d, od, u, h, n, q⟩
  · exact ⟨H, I, q⟩
  · exact ⟨_, I.unlock h n, q⟩
theorem ps_unl {st : Stmt} {t : TS} (h : PS X st t) : PS X st (tUnS X t) := by
  refine ⟨fun pins s σ H D I hw => ?_⟩
  refine thn (h.run pins s σ _ _ I hw) fun f s1 q => ?_
  cases f with
  | next => obtain ⟨σ', H', I2, q⟩ := q; obtain ⟨H3, I3, q3⟩ := ul_inv I2 q; exact ⟨σ', H3, I3, q3⟩
  | brk => obtain ⟨σ', H', I2, q⟩ := q; obtain ⟨H3, I3, q3⟩ := ul_inv I2 q; exact ⟨σ', H3, I3, q3⟩
  | cont => obtain ⟨σ', H', I2, q⟩ := q; obtain ⟨H3, I3, q3⟩ := ul_inv I2 q; exact ⟨σ', H3, I3, q3⟩
  | ret v => obtain ⟨x, σ', H', I2, r, q⟩ := q; obtain ⟨H3, I3, q3⟩ := ul_inv I2 q; exact ⟨x, σ', H3, I3, r, q3⟩
theorem pe_unl {e : Expr} {t : TE} (h : PE X e t) : PE X e (tUnE X t) := by
  refine ⟨fun pins s σ H Q I hw => ?_⟩
  refine thn (h.run pins s σ _ _ I hw) fun v s1 ⟨x, H1, I2, r, q⟩ => ?_
  obtain ⟨H3, I3, q3⟩ := ul_inv I2 q
  exact ⟨x, H3, I3, r, q3⟩
end
/-! ### heaps alike but for a lock -/
def Lk (kvs : List (Key × V)) (y : HO) : Prop := y = .dK kvs ∨ ∃ o, y = .frz o (.dK kvs)
section
variable {K : PySem.W.Frag} {G H : Hp} {a : Addr} {kvs : List (Key × V)} {x y : HO}
theorem lk_get (hx : G a = some x) (lx : Lk kvs x) {b : Addr} {u : HO} (h : G b = some u) (n : ∀ kvs', u ≠ .dK kvs') (n2 : ∀ o kvs', u ≠ .frz o (.dK kvs')) : (upd G a y) b = some u := by
  have hb : b ≠ a := fun z => by
    subst z
    rw [hx] at h
    cases h
    rcases lx with e | ⟨o, e⟩
    · exact n _ e
    · exact n2 _ _ e
  rw [upd_ne hb]
  exact h
theorem lk_rd (hx : G a = some x) (lx : Lk kvs x) (ly : Lk kvs y) {b : Addr} {u : HO} (h : Rd G b u) (n : ∀ o kvs', u ≠ .frz o (.dK kvs')) : Rd (upd G a y) b u := by
  by_cases hb : b = a
  · subst hb
    have hu : u = .dK kvs := by
      rcases h with h | ⟨o, h⟩
      · rw [hx] at h
        cases h
        rcases lx with e | ⟨o, e⟩
        · exact e
        · exact absurd e (n _ _)
      · rw [hx] at h
        cases h
        rcases lx with e | ⟨o, e⟩
        · cases e
        · cases e
          rfl
    subst hu
    rcases ly with e | ⟨o, e⟩
    · exact .inl (by rw [upd_same, e])
    · exact .inr ⟨o, by rw [upd_same, e]⟩
  · rcases h with h | ⟨o, h⟩
    · exact .inl (by rw [upd_ne hb]; exact h)
    · exact .inr ⟨o, by rw [upd_ne hb]; exact h⟩
mutual
theorem Rep.swap (hx : G a = some x) (lx : Lk kvs x) (ly : Lk kvs y) : ∀ {v : V} {d : D}, Rep K G v d → Rep K (upd G a y) v d
  | _, _, .non => .non
  | _, _, .bl b => .bl b
  | _, _, .int i => .int i
  | _, _, .str x => .str x
  | _, _, .tup h r => .tup (by
      rcases h with ⟨o, h, hd⟩ | h
      · exact .inl ⟨o, lk_get hx lx h (fun _ z => nomatch z) (fun _ _ z => nomatch z), hd⟩
      · exact .inr h) (Reps.swap hx lx ly r)
  | _, _, .lst h r => .lst (by
      rcases h with h | h
      · exact .inl (lk_rd hx lx ly h (fun _ _ z => nomatch z))
      · exact .inr h) (Reps.swap hx lx ly r)
  | _, _, .dct h r => .dct (lk_rd hx lx ly h (fun _ _ z => nomatch z)) (RepKV.swap hx lx ly r)
theorem Reps.swap (hx : G a = some x) (lx : Lk kvs x) (ly : Lk kvs y) : ∀ {v : List V} {d : List D}, Reps K G v d → Reps K (upd G a y) v d
  | _, _, .nil => .nil
  | _, _, .cons h r => .cons (Rep.swap hx lx ly h) (Reps.swap hx lx ly r)
theorem RepKV.swap (hx : G a = some x) (lx : Lk kvs x) (ly : Lk kvs y) : ∀ {v : List (Key × V)} {d : List (D × D)}, RepKV K G v d → RepKV K (upd G a y) v d
  | _, _, .nil => .nil
  | _, _, .cons h r => .cons (Rep.swap hx lx ly h) (RepKV.swap hx lx ly r)
end
theorem RepO.swap (hx : G a = some x) (lx : Lk kvs x) (ly : Lk kvs y) : ∀ {o : HO} {d : D}, RepO K G o d → RepO K (upd G a y) o d
  | _, _, .lst r => .lst (r.swap hx lx ly)
  | _, _, .dK r => .dK (r.swap hx lx ly)
variable {en en1 : En} {σ σ1 : St} {G1 H1 : Hp}
theorem SR.swap (S : SR K G H en σ) (hx : G a = some x) (lx : Lk kvs x) (ly : Lk kvs y) : SR K (upd G a y) (upd H a y) en σ := by
  refine ⟨fun b u e => ?_, S.len, fun i d e => ?_, fun i d f e n => ?_, S.sep⟩
  · by_cases hb : b = a
    · subst hb
      rw [upd_same] at e ⊢
      exact e
    · rw [upd_ne hb] at e ⊢
      exact S.sub b u e
  · obtain ⟨v, e1, e2⟩ := S.shd i d e
    exact ⟨v, e1, e2.swap hx lx ly⟩
  · obtain ⟨b, u, e1, e2, e3, e4⟩ := S.own i d f e n
    have hb : b ≠ a := fun z => by rw [z, hx] at e2; cases e2
    exact ⟨b, u, e1, by rw [upd_ne hb]; exact e2, by rw [upd_ne hb]; exact e3, e4.swap hx lx ly⟩
theorem Ext.unlock {O : Addr → Prop} {od : Obj} (s : Same G H) (hx : G a = some (.dK kvs)) (T : Ext O (upd G a (.frz od (.dK kvs))) (upd H a (.frz od (.dK kvs))) G1 H1) : Ext O G H (upd G1 a (.dK kvs)) (upd H1 a (.dK kvs)) := by
  have hH := s _ _ hx
  refine ⟨fun b u e => ?_, fun b u e n => ?_, fun b u e n g => ?_, fun b e => ?_⟩
  · by_cases hb : b = a
    · subst hb
      rw [hx] at e
      rw [upd_same]
      exact e
    · rw [upd_ne hb]
      exact T.g b u (by rw [upd_ne hb]; exact e)
  · by_cases hb : b = a
    · subst hb
      rw [hH] at e
      rw [upd_same]
      exact e
    · rw [upd_ne hb]
      exact T.h b u (by rw [upd_ne hb]; exact e) n
  · by_cases hb : b = a
    · subst hb
      rw [hx] at g
      cases g
    · rw [upd_ne hb]
      exact T.n b u (by rw [upd_ne hb]; exact e) n (by rw [upd_ne hb]; exact g)
  · by_cases hb : b = a
    · subst hb
      rw [upd_same] at e
      cases e
    · rw [upd_ne hb] at e
      have := T.t b e
      rw [upd_ne hb] at this
      exact this
theorem StepS.unlock {od : Obj} (s : Same G H) (hx : G a = some (.dK kvs)) (T : StepS K en σ (upd G a (.frz od (.dK kvs))) (upd H a (.frz od (.dK kvs))) en1 σ1 G1 H1) : StepS K en σ G H en1 σ1 (upd G1 a (.dK kvs)) (upd H1 a (.dK kvs)) := by
  have g1 : G1 a = some (.frz od (.dK kvs)) := T.ext.g _ _ upd_same
  refine ⟨T.ext.unlock s hx, T.sr.swap g1 (.inr ⟨od, rfl⟩) (.inl rfl), fun b q => ?_, T.lent⟩
  rcases T.own b q with z | z
  · exact .inl z
  · by_cases hb : b = a
    · subst hb
      rw [upd_same] at z
      cases z
    · rw [upd_ne hb] at z
      exact .inr z
theorem Step.unlock {od : Obj} (s : Same G H) (hx : G a = some (.dK kvs)) (T : Step K en en1 σ (upd G a (.frz od (.dK kvs))) (upd H a (.frz od (.dK kvs))) G1 H1) : Step K en en1 σ G H (upd G1 a (.dK kvs)) (upd H1 a (.dK kvs)) := by
  have g1 : G1 a = some (.frz od (.dK kvs)) := T.ext.g _ _ upd_same
  exact ⟨T.ext.unlock s hx, T.sr.swap g1 (.inr ⟨od, rfl⟩) (.inl rfl), T.own, T.lent⟩
theorem Res.unlock {O O' : Addr → Prop} {v : V} {d : D} {b : Bool} {od : Obj} (s : Same G H) (hx : G a = some (.dK kvs)) (g1 : G1 a = some (.frz od (.dK kvs))) (r : Res K O (upd H a (.frz od (.dK kvs))) O' G1 H1 v d b) : Res K O H O' (upd G1 a (.dK kvs)) (upd H1 a (.dK kvs)) v d b := by
  cases b with
  | false => exact Rep.swap g1 (.inr ⟨od, rfl⟩) (.inl rfl) r
  | true =>
    obtain ⟨c, o, e, q1, q2, q3, q4, q5⟩ := r
    have hc : c ≠ a := fun z => by rw [z, g1] at q4; cases q4
    refine ⟨c, o, e, ?_, q2, by rw [upd_ne hc]; exact q3, by rw [upd_ne hc]; exact q4, q5.swap g1 (.inr ⟨od, rfl⟩) (.inl rfl)⟩
    rcases q1 with q1 | q1
    · rw [upd_ne hc] at q1
      exact .inl q1
    · exact .inr q1
end
/-! ### what a for walks, a dict among them -/
def seqE : D → Option (List D)
  | .dict es => some (es.map (·.1))
  | d => seqD d
def itE (f : Vv) : Lv := fun en => (f en).bind fun x => (seqE x.1).map fun ds => (ds, x.2)
/-- as it stands, or locked at an address -/
def LkG (X : Cx) (G1 H1 G2 H2 : Hp) : Prop := (G2 = G1 ∧ H2 = H1) ∨ ∃ a od kvs, G1 a = some (.dK kvs) ∧ (∀ o' u', X.H_0 a ≠ some (.frz o' u')) ∧ G2 = upd G1 a (.frz od (.dK kvs)) ∧ H2 = upd H1 a (.frz od (.dK kvs))
def FIK (X : Cx) (f : Lv) : TI := fun σ H R => ∃ G en ds en', SR X.K G H en σ ∧ f en = some (ds, en') ∧ ∀ J G1 H1 G2 H2, Step X.K en en' σ G H G1 H1 → LkG X G1 H1 G2 H2 → SR X.K G2 H2 en' σ → JOk Rep X.K J G2 ds → R J H2
section
variable {X : Cx} {tg e : Expr} {pos p : Pos} {K : PySem.W.Frag}
theorem repKV_get {G : Hp} : ∀ {kvs : List (Key × V)} {es : List (D × D)} (i : Nat) (d : D), RepKV K G kvs es → (es.map (·.1))[i]? = some d → ∃ k v, kvs[i]? = some (k, v) ∧ d = kD k
  | _, _, _, _, .nil, h => by simp at h
  | _, _, 0, _, .cons (k := k) (v := v) _ _, h => by
    cases h
    exact ⟨k, v, rfl, rfl⟩
  | _, _, i + 1, d, .cons _ t, h => repKV_get i d t h
theorem repKV_len {G : Hp} : ∀ {kvs : List (Key × V)} {es : List (D × D)}, RepKV K G kvs es → kvs.length = es.length
  | _, _, .nil => rfl
  | _, _, .cons _ t => congrArg Nat.succ (repKV_len t)
theorem rep_kD {G : Hp} (k : Key) : Rep K G (kV k) (kD k) := by
  cases k
  · exact .int _
  · exact .str _
theorem jok_keys {a : Addr} {o : Obj} {kvs : List (Key × V)} {es : List (D × D)} {G0 : Hp} (h : G0 a = some (.frz o (.dK kvs))) (r : RepKV K G0 kvs es) : JOk Rep K (Itk a o kvs) G0 (es.map (·.1)) := fun i G H s1 s2 => by
  have hq := (s1.trans s2) _ _ h
  have hl := repKV_len r
  refine ⟨fun hi => ⟨hq, by rw [List.length_map] at hi; omega⟩, fun d hd => ?_⟩
  obtain ⟨k, v, e1, e2⟩ := repKV_get i d r hd
  refine ⟨⟨hq, (List.getElem?_eq_some_iff.mp e1).1⟩, fun x H' ⟨e, k', v', e3, e4⟩ => ?_⟩
  subst e
  rw [e1] at e3
  cases e3
  subst e4 e2
  exact ⟨G, New.refl s2, rep_kD k⟩
theorem fi_valE {f : Vv} (he : PE X e (FV X.K f)) : PI X tg e (FIK X (itE f)) := by
  refine ⟨fun pins s σ H R I ⟨G, en, ds, en', S, e1, k⟩ => ?_⟩
  obtain ⟨⟨d, en1⟩, p1, e2⟩ := Option.bind_eq_some_iff.mp e1
  obtain ⟨ds', q1, q2⟩ := Option.map_eq_some_iff.mp e2
  cases q2
  refine thn (he.run pins s σ H (fun v H1 => ∃ G1, Step X.K en en1 σ G H G1 H1 ∧ Rep X.K G1 v d) I ⟨G, en, d, en1, S, p1, fun v G1 H1 T r => ⟨G1, T, r⟩⟩) fun u s1 ⟨v, H1, I1, rv, G1, T, r⟩ => ?_
  cases r with
  | tup h rr =>
    cases q1
    cases rv
    obtain ⟨its, ri, ht, hz⟩ := I1.tuple (seqT T.sr.sub h.sq)
    refine wpAny_pyIter_tuple (items := its.toArray) ht ?_
    exact pi_one (tk := s1.toks) I1 _ (turn_tuple _ _) ⟨_, Heap.get?_push_size _ rfl, rfl, rfl⟩ (k _ _ _ _ _ T (.inl ⟨rfl, rfl⟩) T.sr (jok_tup h rr))
  | lst h rr =>
    cases q1
    cases rv
    obtain ⟨its, ri, ht, hz⟩ := I1.list (T.sr.sub.seq h)
    refine wpAny_pyIter_list ht.isList ?_
    exact pi_one (tk := s1.toks) I1 _ (turn_list _ _) ⟨_, Heap.get?_push_size _ rfl, rfl, rfl⟩ (k _ _ _ _ _ T (.inl ⟨rfl, rfl⟩) T.sr (jok_list h rr))
  | str z =>
    cases q1
    obtain ⟨t, rfl⟩ := rv
    cases ha : z.cps.all (· < 128) with
    | true => exact wpAny_pyIter_ascii ha (pi_one (tk := s1.toks) I1 _ (turn_str _ z t "str_ascii_iterator" (.inl rfl)) ⟨_, Heap.get?_push_size _ rfl, rfl, rfl⟩ (k _ _ _ _ _ T (.inl ⟨rfl, rfl⟩) T.sr jok_str))
    | false => exact wpAny_pyIter_wide ha (pi_one (tk := s1.toks) I1 _ (turn_str _ z t "str_iterator" (.inr rfl)) ⟨_, Heap.get?_push_size _ rfl, rfl, rfl⟩ (k _ _ _ _ _ T (.inl ⟨rfl, rfl⟩) T.sr jok_str))
  | @dct a kvs es h rr =>
    cases q1
    have eu : u = Value.ref a := rv
    subst eu
    rcases h with h | ⟨o, h⟩
    · obtain ⟨od, I2⟩ := I1.lock (T.sr.sub _ _ h) trivial
      have nf := I1.nofrz (T.sr.sub _ _ h) trivial
      obtain ⟨hs, hgd, hx, es', ep, vs, hdt, hsz, kv, hm⟩ := I2.frzK upd_same
      refine iter_keys hs hgd hx hdt (pi_one (tk := s1.toks) I2 _ (turn_keys _ hdt) ⟨_, Heap.get?_push_size _ rfl, rfl, ?_⟩ (k _ _ _ _ _ T (.inr ⟨_, od, _, h, nf, rfl, rfl⟩) (T.sr.swap h (.inl rfl) (.inr ⟨od, rfl⟩)) (jok_keys upd_same (rr.swap h (.inl rfl) (.inr ⟨od, rfl⟩)))))
      rw [hsz] <;> rfl
    · have hd := T.sr.sub _ _ h
      obtain ⟨hs, hgd, hx, es', ep, vs, hdt, hsz, kv, hm⟩ := I1.frzK hd
      refine iter_keys hs hgd hx hdt (pi_one (tk := s1.toks) I1 _ (turn_keys _ hdt) ⟨_, Heap.get?_push_size _ rfl, rfl, ?_⟩ (k _ _ _ _ _ T (.inl ⟨rfl, rfl⟩) T.sr (jok_keys h rr)))
      rw [hsz] <;> rfl
  | non => cases q1
  | bl b => cases q1
  | int i => cases q1
theorem fs_forE {iter : Expr} {body : List Stmt} {it : Lv} {ts : List Nat} {s : Gv} {b : Sv} (hp : PassesOwn (model X.prog X.w) X.A X.env X.xe) (hc : X.calm = true) (hi : PI X tg iter (FIK X it)) (hg : PG X tg (FG Rep X.K ts s)) (hb : PSs X body (FS X.K b)) (hs : ∀ x, foldedSetIterable iter X.env x = pure x := by intro _; rfl) :
    PS X (.For tg iter body [] pos) (FS X.K (sFor it s b)) := ps_imp (ps_unl (ps_for hp hc hi hg hb hs)) fun D σ H ⟨G, en, o, en', S, e1, k⟩ => by
  obtain ⟨⟨ds, en1⟩, p1, e2⟩ := Option.bind_eq_some_iff.mp e1
  refine ⟨G, en, ds, en1, S, p1, fun J G0 H0 G1 H1 T0 lk S1 hJ => ?_⟩
  have k' : OutR X.K ⟨fun σ' H' => Ul X (D.nx σ') H', fun v H' => Ul X (D.rt v) H', fun σ' H' => Ul X (D.bk σ') H', fun σ' H' => Ul X (D.ct σ') H'⟩ en1 σ G1 H1 en' o := by
    rcases lk with ⟨rfl, rfl⟩ | ⟨a, od, kvs, h, nf, rfl, rfl⟩
    · cases o with
      | nx => exact fun G' H' σ' T => .inl (k G' H' σ' (T0.s.trans T))
      | bk => exact fun G' H' σ' T => .inl (k G' H' σ' (T0.s.trans T))
      | ct => exact fun G' H' σ' T => .inl (k G' H' σ' (T0.s.trans T))
      | rt d b => exact fun v G' H' σ' T r => .inl (k v G' H' σ' (T0.s.trans T) (resS T0.s r))
    · have fr : ∀ {G' H' : Hp} {σ' : St}, StepS X.K en1 σ (upd G0 a (.frz od (.dK kvs))) (upd H0 a (.frz od (.dK kvs))) en' σ' G' H' → G' a = some (.frz od (.dK kvs)) ∧ H' a = some (.frz od (.dK kvs)) := fun T => ⟨T.ext.g _ _ upd_same, T.sr.sub _ _ (T.ext.g _ _ upd_same)⟩
      cases o with
      | nx => exact fun G' H' σ' T => .inr ⟨a, od, _, (fr T).2, nf, k _ _ σ' (T0.s.trans (T.unlock T0.sr.sub h))⟩
      | bk => exact fun G' H' σ' T => .inr ⟨a, od, _, (fr T).2, nf, k _ _ σ' (T0.s.trans (T.unlock T0.sr.sub h))⟩
      | ct => exact fun G' H' σ' T => .inr ⟨a, od, _, (fr T).2, nf, k _ _ σ' (T0.s.trans (T.unlock T0.sr.sub h))⟩
      | rt d b => exact fun v G' H' σ' T r => .inr ⟨a, od, _, (fr T).2, nf, k v _ _ σ' (T0.s.trans (T.unlock T0.sr.sub h)) (resS T0.s (Res.unlock (G := G0) T0.sr.sub h (fr T).1 r))⟩
  refine ⟨fun i m σ2 H2 => ∃ G2 en2, StepS X.K en1 σ G1 H1 en2 σ2 G2 H2 ∧ Same G1 G2 ∧ m = ds.length - i ∧ forL s b (ds.drop i) en2 = some (o, en'), ⟨_, G1, en1, StepS.refl S1, Same.refl _, rfl, e2⟩, ?_⟩
  rintro i m σ2 H2 ⟨G2, en2, T2, g2, rfl, w⟩
  obtain ⟨j1, j2⟩ := hJ i G2 H2 g2 T2.sr.sub
  by_cases hi : i < ds.length
  · rw [List.drop_eq_getElem_cons hi] at w
    obtain ⟨en3, p3, e3⟩ := Option.bind_eq_some_iff.mp w
    obtain ⟨⟨o4, en4⟩, p4, e4⟩ := Option.bind_eq_some_iff.mp e3
    obtain ⟨j3, j4⟩ := j2 ds[i] (List.getElem?_eq_getElem hi)
    refine .inr ⟨j3, fun σ' H' => ∃ G' e', StepS X.K en1 σ G1 H1 e' σ' G' H' ∧ Same G1 G' ∧ forL s b (ds.drop (i + 1)) e' = some (o, en'), fun σ' H' ⟨G', e', T', g', w'⟩ => ⟨ds.length - (i + 1), by omega, G', e', T', g', rfl, w'⟩, fun x H3 hy => ?_⟩
    obtain ⟨G3, N3, r3⟩ := j4 x H3 hy
    have T3 := T2.trans (N3.step T2.sr).s
    refine ⟨G3, en2, _, en3, T3.sr, r3, p3, fun σ4 G4 H4 T4 _ => ?_⟩
    have T34 := T3.trans T4.s
    have g4 : Same G1 G4 := (g2.trans N3.ext.g).trans T4.ext.g
    refine ⟨G4, en3, o4, en4, T4.sr, p4, ?_⟩
    cases o4 with
    | nx => exact fun G' H' σ' T5 => ⟨G', en4, T34.trans T5, g4.trans T5.ext.g, e4⟩
    | ct => exact fun G' H' σ' T5 => ⟨G', en4, T34.trans T5, g4.trans T5.ext.g, e4⟩
    | bk =>
      cases e4
      exact fun G' H' σ' T5 => k' G' H' σ' (T34.trans T5)
    | rt d b =>
      cases e4
      exact fun v G' H' σ' T5 r => k' v G' H' σ' (T34.trans T5) (resS T34 r)
  · rw [List.drop_eq_nil_of_le (by omega)] at w
    cases w
    exact .inl ⟨j1 (by omega), k' G2 H2 σ2 T2⟩
theorem lcE_of {vs ts : List Nat} {it : Lv} {s : Gv} {t : Tv} {f : Vv} (hts : ∀ i ∈ ts, i ∈ vs) {σ : St} {H : Hp} {Q : VK} (h : FE X.K (fLc vs it s t f) σ H Q) : tLc (FIK X it) (FG Rep X.K ts s) (FT X.K t) (FV X.K f) vs σ H fun v H' => Ul X (Q v) H' := by
  obtain ⟨G, en, z, zb, en', S, e1, k⟩ := h
  obtain ⟨⟨ds, en1⟩, p1, e2⟩ := Option.bind_eq_some_iff.mp e1
  obtain ⟨⟨rs, en2⟩, p2, e3⟩ := Option.bind_eq_some_iff.mp e2
  obtain ⟨hz, e4⟩ := ite_some e3
  cases e4
  refine ⟨G, en, ds, en1, S, p1, fun J G0 H0 G1 H1 T0 lk S1 hJ => lcJ_of (R := Rep) (J := J) (Q := fun v H2 => Ul X (Q v) H2) hts S1 p2 hz (fun i G H s1 s2 _ => hJ i G H s1 s2) fun v G' H' T r => ?_⟩
  rcases lk with ⟨rfl, rfl⟩ | ⟨a, od, kvs, h, nf, rfl, rfl⟩
  · exact .inl (k v G' H' (T0.trans T) (res_trans T0 r))
  · have g1 : G' a = some (.frz od (.dK kvs)) := T.ext.g _ _ upd_same
    have h1 : H' a = some (.frz od (.dK kvs)) := T.sr.sub _ _ g1
    exact .inr ⟨a, od, _, h1, nf, k v _ _ (T0.trans (T.unlock T0.sr.sub h)) (res_trans T0 (Res.unlock (G := G0) T0.sr.sub h g1 r))⟩
theorem fe_lcE {elt tg iter : Expr} {ifs : List Expr} {scope : Scope} {own : List (Str × Nat)} {ts : List Nat} {it : Lv} {s : Gv} {t : Tv} {f : Vv} (hc : X.calm = true) (hN : X.N.Nodup) (hi : PI X tg iter (FIK X it)) (ok : BlkOk X.N X.env.scope scope own) (hts : ∀ i ∈ ts, i ∈ own.map (·.2))
    (hg : ∀ (s' : Shared) (H : Hp) (C : Addr) (cl : List (Str × Addr)) (fp : List Addr), PG (X.blk s' H scope (compEnvC scope cl C X.env) fp) tg (FG Rep X.K ts s))
    (ht : ∀ (s' : Shared) (H : Hp) (C : Addr) (cl : List (Str × Addr)) (fp : List Addr), PTs (X.blk s' H scope (compEnvC scope cl C X.env) fp) ifs (FT X.K t))
    (he : ∀ (s' : Shared) (H : Hp) (C : Addr) (cl : List (Str × Addr)) (fp : List Addr), PE (X.blk s' H scope (compEnvC scope cl C X.env) fp) elt (FV X.K f)) (hs : ∀ x, foldedSetIterable iter X.env x = pure x := by intro _; rfl) :
    PE X (.ListComp elt [⟨tg, iter, ifs, 0⟩] scope pos) (FE X.K (fLc (own.map (·.2)) it s t f)) := pe_imp (pe_unl (pe_lc hc hN hi ok hg ht he hs)) fun _ _ _ h => lcE_of hts h
theorem fs_setLcE {i : Nat} {y : Str} {py spos : Pos} {elt tg iter : Expr} {ifs : List Expr} {scope : Scope} {own : List (Str × Nat)} {ts : List Nat} {it : Lv} {s : Gv} {t : Tv} {f : Vv} (hc : X.calm = true) (hN : X.N.Nodup) (hi : PI X tg iter (FIK X it)) (ok : BlkOk X.N X.env.scope scope own) (hts : ∀ i ∈ ts, i ∈ own.map (·.2))
    (hg : ∀ (s' : Shared) (H : Hp) (C : Addr) (cl : List (Str × Addr)) (fp : List Addr), PG (X.blk s' H scope (compEnvC scope cl C X.env) fp) tg (FG Rep X.K ts s))
    (ht : ∀ (s' : Shared) (H : Hp) (C : Addr) (cl : List (Str × Addr)) (fp : List Addr), PTs (X.blk s' H scope (compEnvC scope cl C X.env) fp) ifs (FT X.K t))
    (he : ∀ (s' : Shared) (H : Hp) (C : Addr) (cl : List (Str × Addr)) (fp : List Addr), PE (X.blk s' H scope (compEnvC scope cl C X.env) fp) elt (FV X.K f))
    (hy : X.N[i]? = some y := by rfl) (hyl : X.env.scope.names.lookup y = some .local := by rfl) (hsw : swapsWith (.ListComp elt [⟨tg, iter, ifs, 0⟩] scope pos) (some (.Name y py)) spos.line X.env = pure true := by exact sw_true rfl rfl rfl (by decide +kernel)) (hs : ∀ x, foldedSetIterable iter X.env x = pure x := by intro _; rfl) :
    PS X (.Assign [.Name y py] (.ListComp elt [⟨tg, iter, ifs, 0⟩] scope pos) spos) (FS X.K (sSet i (fLc (own.map (·.2)) it s t f))) := ps_imp (ps_unl (ps_setLc hc hN hy hyl hsw hi ok hg ht he hs)) fun D σ H ⟨G, en, o, en', S, e1, k⟩ => by
  obtain ⟨⟨d, b, en1⟩, p1, e2⟩ := Option.bind_eq_some_iff.mp e1
  obtain ⟨hl, e3⟩ := ite_some e2
  cases e3
  exact lcE_of hts (Q := fun v H' => D.nx (σ.set i (some v)) H') ⟨G, en, d, b, en1, S, p1, fun v G1 H1 T r => k G1 H1 _ (T.s.store hl r)⟩
end
end Fx
/-! Fx34: dict(zip(a, b)) of a list or tuple each. -/
namespace Fx
open PySem PySem.Spec L2
section
variable {P : Program} {w : World} {A : Around} {E : Value → Shared → Prop} {s : Shared} {z TI TO T i1 i2 : Addr} {fp1 fp2 : List Addr} {n1 n2 i : Nat} {P1 P2 : Nat → Value → Prop} {St1 St2 : Nat → Heap → Prop} {f : Bool} {oT : Obj}
/-- a turn of zip while the tuple that was given out is still held: a new tuple -/
theorem zipH_item {Q : Value → Shared → Prop} (S : ZipSep2 z TI TO i1 i2 fp1 fp2) (D1 : Draws P w A i1 fp1 n1 P1 St1) (D2 : Draws P w A i2 fp2 n2 P2 St2)
    (hz : IsZipHeld s.heap z TI TO T f) (hT : s.heap.get? T = some oT) (hTI : IsTupOf2 s.heap TI (.ref i1) (.ref i2)) (st1 : St1 i s.heap) (st2 : St2 i s.heap) (l1 : i < n1) (l2 : i < n2)
    (hQ : ∀ x1 x2 h' tk, P1 i x1 → P2 i x2 → IsZipHeld h' z TI TO T true → St1 (i + 1) h' → St2 (i + 1) h' → IsTupOf2 h' s.heap.objs.size x1 x2 → h'.objs.size = s.heap.objs.size + 1 →
      (∀ c o, c ≠ z → c ≠ i1 → c ≠ i2 → s.heap.get? c = some o → h'.get? c = some o) → Q (.ref s.heap.objs.size) { s with heap := h', toks := tk }) :
    wpAny (model P w) A (Builtin.«zip.__next__» ⟨[.ref z], []⟩) (fun fin s' => ∃ v, fin = .done (.ret v) ∧ Q v s') E s := by
  obtain ⟨hp, gn, dr, tk0, os⟩ := s
  show wpAny _ _ (field (.ref z) 2 >>= _) _ _ _
  refine wpAny_bind (wpAny_field hz rfl (x := .bool false) rfl ?_)
  show wpAny _ _ (field (.ref z) 3 >>= _) _ _ _
  refine wpAny_bind (wpAny_field hz rfl (x := .ref TI) rfl ?_)
  refine wpAny_bind (wpAny_seqItems hTI rfl ?_)
  show wpAny _ _ (Builtin.SmallTypes.ownedTupleIsFree (.ref z) >>= _) _ _ _
  refine wpAny_bind (wpAny_tupleHeld_zip hz hT fun g0 hz0 hs0 => ?_)
  replace hs0 : Heap.SameBut z hp g0 := hs0
  simp only [Bool.false_eq_true, if_false]
  refine wpAny_bind ?_
  rw [← Array.forIn_toList]
  simp only [List.forIn_cons, List.forIn_nil]
  refine wpAny_bind (wpAny_bind (wpAny_holding ?_))
  show wpAny _ _ (Builtin.SmallTypes.nextOf (.ref i1) >>= _) _ _ ⟨g0, gn, dr, tk0, os⟩
  refine wpAny_bind (D1.item i _ _ _ l1 (D1.over st1 hs0 S.zf1) fun x1 p1 tk1 hx1 sn1 hp1 => wpAny_pure ?_)
  replace hp1 : Heap.SameBut i1 g0 p1 := hp1
  refine wpAny_pure ?_
  refine wpAny_bind (wpAny_bind (wpAny_holding ?_))
  show wpAny _ _ (Builtin.SmallTypes.nextOf (.ref i2) >>= _) _ _ ⟨p1, gn, dr, tk1, os⟩
  refine wpAny_bind (D2.item i _ _ _ l2 (D2.over (D2.over st2 hs0 S.zf2) hp1 S.sep1_2) fun x2 p2 tk2 hx2 sn2 hp2 => wpAny_pure ?_)
  replace hp2 : Heap.SameBut i2 p1 p2 := hp2
  refine wpAny_pure (wpAny_pure ?_)
  show wpAny _ _ (newTuple [x1, x2] >>= _) _ _ ⟨p2, gn, dr, tk2, os⟩
  refine wpAny_bind (wpAny_newTuple ?_)
  have hsz : p2.objs.size = hp.objs.size := by rw [hp2.1, hp1.1, hs0.1]
  have hz2 : IsZipHeld p2 z TI TO T true := hp2.extBut _ _ S.zi2 (hp1.extBut _ _ S.zi1 hz0)
  have hk : ∀ c o, c ≠ z → c ≠ i1 → c ≠ i2 → hp.get? c = some o → p2.get? c = some o := fun c o cz c1 c2 e => hp2.extBut _ _ c2 (hp1.extBut _ _ c1 (hs0.extBut _ _ cz e))
  have hj1 : St1 (i + 1) p2 := D1.over sn1 hp2 S.sep2_1
  have push : ∀ (c : Addr) (o : Obj), p2.get? c = some o → (p2.push { cls := .type "tuple", data := .seq #[x1, x2] }).get? c = some o := fun c o e => Heap.get?_push_of_some _ e
  refine wpAny_pure ⟨_, rfl, ?_⟩
  show Q (.ref p2.objs.size) ⟨p2.push { cls := .type "tuple", data := .seq #[x1, x2] }, gn, dr, tk2, os⟩
  have hp' : IsTupOf2 (p2.push { cls := .type "tuple", data := .seq #[x1, x2] }) p2.objs.size x1 x2 := Heap.get?_push_size _ rfl
  have hz' : (p2.push { cls := .type "tuple", data := .seq #[x1, x2] }).objs.size = p2.objs.size + 1 := Heap.size_push ..
  rw [hsz] at hp' hz' ⊢
  exact hQ x1 x2 _ tk2 hx1 hx2 (push _ _ hz2) (D1.frame _ _ _ hj1 fun b _ o e => push b o e) (D2.frame _ _ _ sn2 fun b _ o e => push b o e) hp' hz' fun c o cz c1 c2 e => push c o (hk c o cz c1 c2 e)
theorem zipH_end {Q : Fin → Shared → Prop} (S : ZipSep2 z TI TO i1 i2 fp1 fp2) (D1 : Draws P w A i1 fp1 n1 P1 St1) (D2 : Draws P w A i2 fp2 n2 P2 St2)
    (hz : IsZipHeld s.heap z TI TO T f) (hT : s.heap.get? T = some oT) (hTI : IsTupOf2 s.heap TI (.ref i1) (.ref i2)) (st1 : St1 i s.heap) (st2 : St2 i s.heap) (l1 : i ≤ n1) (l2 : i ≤ n2) (hend : i = n1 ∨ i = n2)
    (hE : ∀ h' tk e, (∀ c o, c ≠ z → c ≠ i1 → c ≠ i2 → s.heap.get? c = some o → h'.get? c = some o) → (∃ o, h'.get? e = some o ∧ o.cls = .type "StopIteration") → E (.ref e) { s with heap := h', toks := tk }) :
    wpAny (model P w) A (Builtin.«zip.__next__» ⟨[.ref z], []⟩) Q E s := by
  obtain ⟨hp, gn, dr, tk0, os⟩ := s
  show wpAny _ _ (field (.ref z) 2 >>= _) _ _ _
  refine wpAny_bind (wpAny_field hz rfl (x := .bool false) rfl ?_)
  show wpAny _ _ (field (.ref z) 3 >>= _) _ _ _
  refine wpAny_bind (wpAny_field hz rfl (x := .ref TI) rfl ?_)
  refine wpAny_bind (wpAny_seqItems hTI rfl ?_)
  show wpAny _ _ (Builtin.SmallTypes.ownedTupleIsFree (.ref z) >>= _) _ _ _
  refine wpAny_bind (wpAny_tupleHeld_zip hz hT fun g0 hz0 hs0 => ?_)
  replace hs0 : Heap.SameBut z hp g0 := hs0
  simp only [Bool.false_eq_true, if_false]
  refine wpAny_bind ?_
  rw [← Array.forIn_toList]
  simp only [List.forIn_cons, List.forIn_nil]
  refine wpAny_bind (wpAny_bind (wpAny_holding ?_))
  show wpAny _ _ (Builtin.SmallTypes.nextOf (.ref i1) >>= _) _ _ ⟨g0, gn, dr, tk0, os⟩
  by_cases hl : i < n1
  · refine wpAny_bind (D1.item i _ _ _ hl (D1.over st1 hs0 S.zf1) fun x1 p1 tk1 hx1 sn1 hp1 => wpAny_pure ?_)
    replace hp1 : Heap.SameBut i1 g0 p1 := hp1
    refine wpAny_pure ?_
    refine wpAny_bind (wpAny_bind (wpAny_holding ?_))
    show wpAny _ _ (Builtin.SmallTypes.nextOf (.ref i2) >>= _) _ _ ⟨p1, gn, dr, tk1, os⟩
    have e2 : i = n2 := by omega
    refine wpAny_bind (D2.done ⟨p1, gn, dr, tk1, os⟩ _ _ (by rw [← e2]; exact D2.over (D2.over st2 hs0 S.zf2) hp1 S.sep1_2) fun q e hq he => ?_)
    exact hE q tk1 e (fun c o cz c1 c2 x => hq _ _ c2 (hp1.extBut _ _ c1 (hs0.extBut _ _ cz x))) he
  · have e1 : i = n1 := by omega
    refine wpAny_bind (D1.done ⟨g0, gn, dr, tk0, os⟩ _ _ (by rw [← e1]; exact D1.over st1 hs0 S.zf1) fun q e hq he => ?_)
    exact hE q tk0 e (fun c o cz c1 _ x => hq _ _ c1 (hs0.extBut _ _ cz x)) he
theorem nextH_item {Q : Option Value → Shared → Prop} (S : ZipSep2 z TI TO i1 i2 fp1 fp2) (D1 : Draws P w A.in1 i1 fp1 n1 P1 St1) (D2 : Draws P w A.in1 i2 fp2 n2 P2 St2)
    (hz : IsZipHeld s.heap z TI TO T f) (hT : s.heap.get? T = some oT) (hTI : IsTupOf2 s.heap TI (.ref i1) (.ref i2)) (st1 : St1 i s.heap) (st2 : St2 i s.heap) (l1 : i < n1) (l2 : i < n2)
    (hQ : ∀ x1 x2 h' tk, P1 i x1 → P2 i x2 → IsZipHeld h' z TI TO T true → St1 (i + 1) h' → St2 (i + 1) h' → IsTupOf2 h' s.heap.objs.size x1 x2 → h'.objs.size = s.heap.objs.size + 1 →
      (∀ c o, c ≠ z → c ≠ i1 → c ≠ i2 → s.heap.get? c = some o → h'.get? c = some o) → Q (some (.ref s.heap.objs.size)) { s with heap := h', toks := tk }) :
    wpAny (model P w) A (pyNext (.ref z)) Q E s := by
  have hTy : s.TypeIs (.ref z) "zip" := ⟨_, hz, rfl⟩
  unfold pyNext
  exact wpAny_bind (wpAny_attempt (wpAny_callSpecial?_slot (name := Str.ofString "__next__") hTy F.slot_zip_next (wpAny_call_entry F.slot_zip_next hTy F.entry_zip_next
    (zipH_item S D1 D2 hz hT hTI st1 st2 l1 l2 fun x1 x2 h' tk q1 q2 q3 q4 q5 q6 q7 q8 => wpAny_pure (hQ x1 x2 h' tk q1 q2 q3 q4 q5 q6 q7 q8)) (F.args_zip_next_1 _))))
theorem nextH_end {Q : Option Value → Shared → Prop} (S : ZipSep2 z TI TO i1 i2 fp1 fp2) (D1 : Draws P w A.in1 i1 fp1 n1 P1 St1) (D2 : Draws P w A.in1 i2 fp2 n2 P2 St2)
    (hz : IsZipHeld s.heap z TI TO T f) (hT : s.heap.get? T = some oT) (hTI : IsTupOf2 s.heap TI (.ref i1) (.ref i2)) (st1 : St1 i s.heap) (st2 : St2 i s.heap) (l1 : i ≤ n1) (l2 : i ≤ n2) (hend : i = n1 ∨ i = n2)
    (hQ : ∀ h' tk, (∀ c o, c ≠ z → c ≠ i1 → c ≠ i2 → s.heap.get? c = some o → h'.get? c = some o) → Q none { s with heap := h', toks := tk }) :
    wpAny (model P w) A (pyNext (.ref z)) Q E s := by
  have hTy : s.TypeIs (.ref z) "zip" := ⟨_, hz, rfl⟩
  unfold pyNext
  refine wpAny_bind (wpAny_attempt (wpAny_callSpecial?_slot (name := Str.ofString "__next__") hTy F.slot_zip_next (wpAny_call_entry F.slot_zip_next hTy F.entry_zip_next
    (zipH_end S D1 D2 hz hT hTI st1 st2 l1 l2 hend fun h' tk e hk he => ?_) (F.args_zip_next_1 _))))
  obtain ⟨o, ho, hc⟩ := he
  exact wpAny_bind (wpAny_isInstance (T := "StopIteration") (b := true) ⟨o, ho, hc⟩ isSubtype_stop (wpAny_pure (hQ _ _ hk)))
end
end Fx
/-! Fx35: dict(zip(a, b)) of a list or tuple each: the pairs. -/
namespace Fx
open PySem PySem.Spec L2
section
variable {P : Program} {w : World} {z TI TO i1 i2 a b : Addr} {t1 t2 : Bool} {xs ys : Array Value}
def FreeZ (t1 t2 : Bool) (z TI TO i1 i2 a b : Addr) (xs ys : Array Value) (i : Nat) (h : Heap) : Prop := IsZip h z TI TO .none ∧ IsTupOf2 h TI (.ref i1) (.ref i2) ∧ (∃ x y, IsTupOf2 h TO x y) ∧ itB t1 h i1 a i ∧ itB t2 h i2 b i ∧ isB t1 h a xs ∧ isB t2 h b ys
def HeldZ (d : Addr) (t1 t2 : Bool) (z TI TO i1 i2 a b : Addr) (xs ys : Array Value) (i : Nat) (h : Heap) : Prop := ∃ T f oT, T ≠ d ∧ IsZipHeld h z TI TO T f ∧ h.get? T = some oT ∧ IsTupOf2 h TI (.ref i1) (.ref i2) ∧ itB t1 h i1 a i ∧ itB t2 h i2 b i ∧ isB t1 h a xs ∧ isB t2 h b ys
theorem srcB {A : Around} (D : ZipApart z TI TO i1 i2 a b) (hh : A.handled = none) {d : Addr} (hd : d ∉ [z, TI, TO, i1, i2, a, b]) :
    PairSrc P w A z d [z, TO, i1, i2] (min xs.size ys.size) (fun i k v => xs[i]? = some k ∧ ys[i]? = some v) (fun i h => FreeZ t1 t2 z TI TO i1 i2 a b xs ys i h ∨ HeldZ d t1 t2 z TI TO i1 i2 a b xs ys i h) where
  off := fun hm => hd (by
    simp only [List.mem_cons, List.not_mem_nil, or_false] at hm ⊢
    rcases hm with h | h | h | h <;> simp [h])
  frame := fun i h h' st k => by
    have ne : ∀ c, c ∈ [z, TI, TO, i1, i2, a, b] → c ≠ d := fun c hc e => hd (e ▸ hc)
    rcases st with ⟨hz, hTI, ⟨x, y, hTO⟩, h1, h2, p1, p2⟩ | ⟨T, f, oT, hTd, hz, hT, hTI, h1, h2, p1, p2⟩
    · exact .inl ⟨k z _ (ne z (by simp)) hz, k TI _ (ne TI (by simp)) hTI, ⟨x, y, k TO _ (ne TO (by simp)) hTO⟩, itB_at h1 fun o q => k i1 o (ne i1 (by simp)) q, itB_at h2 fun o q => k i2 o (ne i2 (by simp)) q,
        isB_at p1 fun o q => k a o (ne a (by simp)) q, isB_at p2 fun o q => k b o (ne b (by simp)) q⟩
    · exact .inr ⟨T, f, oT, hTd, k z _ (ne z (by simp)) hz, k T _ hTd hT, k TI _ (ne TI (by simp)) hTI, itB_at h1 fun o q => k i1 o (ne i1 (by simp)) q, itB_at h2 fun o q => k i2 o (ne i2 (by simp)) q,
        isB_at p1 fun o q => k a o (ne a (by simp)) q, isB_at p2 fun o q => k b o (ne b (by simp)) q⟩
  item := fun i s Q E hi st hds hQ => by
    have nh : A.in1.handled = none := by simpa using hh
    have l1 : i < xs.size := by omega
    have l2 : i < ys.size := by omega
    rcases st with ⟨hz, hTI, ⟨x, y, hTO⟩, h1, h2, p1, p2⟩ | ⟨T, f, oT, hTd, hz, hT, hTI, h1, h2, p1, p2⟩
    · refine wpAny_pyNext_zipD2_item (sepOf D) (drawsB nh t1 i1 a D.l1i1 xs) (drawsB nh t2 i2 b D.l2i2 ys) hz hTI hTO ⟨h1, p1⟩ ⟨h2, p2⟩ l1 l2 fun y1 y2 h' tk e1 e2 z' TO' d1 d2 hT hsz hk => ?_
      refine hQ _ y1 y2 h' tk ⟨e1, e2⟩ (.inl ⟨_, hT, rfl, _, rfl⟩) (.inr ⟨s.heap.objs.size, false, _, Nat.ne_of_gt hds, ?_, hT, hk _ _ D.TIz D.TITO D.TIi1 D.TIi2 hTI, d1.1, d2.1, d1.2, d2.2⟩) fun c o hc q => ?_
      · exact z'
      · simp only [List.mem_cons, List.not_mem_nil, or_false, not_or] at hc
        exact hk c o hc.1 hc.2.1 hc.2.2.1 hc.2.2.2 q
    · refine nextH_item (sepOf D) (drawsB nh t1 i1 a D.l1i1 xs) (drawsB nh t2 i2 b D.l2i2 ys) hz hT hTI ⟨h1, p1⟩ ⟨h2, p2⟩ l1 l2 fun y1 y2 h' tk e1 e2 z' d1 d2 hT2 hsz hk => ?_
      have hTz : ∃ o, h'.get? T = some o := by
        by_cases q1 : T = z
        · rw [q1]; exact ⟨_, z'⟩
        · by_cases q2 : T = i1
          · rw [q2]; obtain ⟨o, e, _⟩ := itB_obj d1.1; exact ⟨o, e⟩
          · by_cases q3 : T = i2
            · rw [q3]; obtain ⟨o, e, _⟩ := itB_obj d2.1; exact ⟨o, e⟩
            · exact ⟨_, hk T _ q1 q2 q3 hT⟩
      obtain ⟨oT', hT'⟩ := hTz
      refine hQ _ y1 y2 h' tk ⟨e1, e2⟩ (.inl ⟨_, hT2, rfl, _, rfl⟩) (.inr ⟨T, true, oT', hTd, z', hT', hk _ _ D.TIz D.TIi1 D.TIi2 hTI, d1.1, d2.1, d1.2, d2.2⟩) fun c o hc q => ?_
      simp only [List.mem_cons, List.not_mem_nil, or_false, not_or] at hc
      exact hk c o hc.1 hc.2.2.1 hc.2.2.2 q
  done := fun s Q E st hQ => by
    have nh : A.in1.handled = none := by simpa using hh
    have hm : min xs.size ys.size = xs.size ∨ min xs.size ys.size = ys.size := by omega
    rcases st with ⟨hz, hTI, ⟨x, y, hTO⟩, h1, h2, p1, p2⟩ | ⟨T, f, oT, hTd, hz, hT, hTI, h1, h2, p1, p2⟩
    · exact wpAny_pyNext_zipD2_end (sepOf D) (drawsB nh t1 i1 a D.l1i1 xs) (drawsB nh t2 i2 b D.l2i2 ys) hz hTI hTO ⟨h1, p1⟩ ⟨h2, p2⟩ (Nat.min_le_left ..) (Nat.min_le_right ..) hm fun h' tk hk => hQ h' tk fun c o hc q => by
        simp only [List.mem_cons, List.not_mem_nil, or_false, not_or] at hc
        exact hk c o hc.1 hc.2.1 hc.2.2.1 hc.2.2.2 q
    · exact nextH_end (sepOf D) (drawsB nh t1 i1 a D.l1i1 xs) (drawsB nh t2 i2 b D.l2i2 ys) hz hT hTI ⟨h1, p1⟩ ⟨h2, p2⟩ (Nat.min_le_left ..) (Nat.min_le_right ..) hm fun h' tk hk => hQ h' tk fun c o hc q => by
        simp only [List.mem_cons, List.not_mem_nil, or_false, not_or] at hc
        exact hk c o hc.1 hc.2.2.1 hc.2.2.2 q
theorem isB_obj {t : Bool} {h : Heap} {a : Addr} {vs : Array Value} (st : isB t h a vs) : ∃ o, h.get? a = some o := by
  cases t
  · obtain ⟨o, e, _⟩ := (show h.IsList a vs from st)
    exact ⟨o, e⟩
  · obtain ⟨o, e, _⟩ := (show h.IsTuple a vs from st)
    exact ⟨o, e⟩
theorem pairB (D : ZipApart z TI TO i1 i2 a b) : PairArg P w "zip" z [z, TI, TO, i1, i2, a, b] [z, TO, i1, i2] (min xs.size ys.size) (fun i k v => xs[i]? = some k ∧ ys[i]? = some v) (FreeZ t1 t2 z TI TO i1 i2 a b xs ys 0) where
  type := fun s h => ⟨_, h.1, rfl⟩
  notDict := by decide
  keep := fun h h' ⟨hz, hTI, ⟨x, y, hTO⟩, h1, h2, p1, p2⟩ k => ⟨k z _ hz, k TI _ hTI, ⟨x, y, k TO _ hTO⟩, itB_at h1 fun o q => k i1 o q, itB_at h2 fun o q => k i2 o q, isB_at p1 fun o q => k a o q, isB_at p2 fun o q => k b o q⟩
  there := fun h ⟨hz, hTI, ⟨x, y, hTO⟩, h1, h2, p1, p2⟩ c hc => by
    simp only [List.mem_cons, List.not_mem_nil, or_false] at hc
    rcases hc with q | q | q | q | q | q | q
    · rw [q]; exact ⟨_, hz⟩
    · rw [q]; exact ⟨_, hTI⟩
    · rw [q]; exact ⟨_, hTO⟩
    · rw [q]; obtain ⟨o, e, _⟩ := itB_obj h1; exact ⟨o, e⟩
    · rw [q]; obtain ⟨o, e, _⟩ := itB_obj h2; exact ⟨o, e⟩
    · rw [q]; exact isB_obj p1
    · rw [q]; exact isB_obj p2
  sub := fun c hc => by
    simp only [List.mem_cons, List.not_mem_nil, or_false] at hc ⊢
    rcases hc with q | q | q | q <;> simp [q]
  noKeys := fun A s Q E hh ⟨hz, _⟩ hQ => getAttrOr_miss_zip hz rfl rfl rfl zip_no_keys (by decide +kernel) hh hQ
  iter := fun A s d Q E hh h hd hfp hQ => wpAny_pyIter_zip h.1 (hQ z [z, TO, i1, i2] _ s.heap s.toks (srcB (t1 := t1) (t2 := t2) (xs := xs) (ys := ys) D hh hfp) (.inl h) (fun _ _ q => q) fun c hc => .inl hc)
end
end Fx
/-! Fx36: dict(zip(a, b)) as a function. -/
namespace Fx
open PySem PySem.Spec L2
def rDictZip (K : PySem.W.Frag) : List V → Hp → VK → Prop := fun vs H Q => ∃ (a b : Addr) (t1 t2 : Bool) (ks : List Key) (ys : List V), vs = [.ref a, .ref b] ∧ SqB K t1 H a (ks.map kV) ∧ SqB K t2 H b ys ∧ ∀ p, H p = none → Q (.ref p) (upd H p (.dK (mergeK [] (ks.zip ys))))
theorem isB_size {t : Bool} {X : Cx} {pins : List (Addr × Obj)} {σ : St} {H : Hp} {s : Shared} (I : Inv X pins σ H s) {a : Addr} {xs : List V} (h : SqB X.K t H a xs) : xs.length ≤ sizeLine := by
  cases t
  · obtain ⟨its, r, p, hz⟩ := I.list (show SqL X.K H a xs from h)
    exact hz
  · obtain ⟨its, r, p, hz⟩ := I.tuple (show SqT X.K H a xs from h)
    exact hz
theorem kv_zip : ∀ {ks : List Key} {ys : List V} {us : List Value}, Vals ys us → KV (ks.zip ys) (ks.zip us)
  | [], ys, us, _ => by
    rw [List.zip_nil_left, List.zip_nil_left]
    exact .nil
  | k :: ks, _, _, .nil => by
    rw [List.zip_nil_right, List.zip_nil_right]
    exact .nil
  | k :: ks, _, _, .cons r rr => by
    rw [List.zip_cons_cons, List.zip_cons_cons]
    exact .cons ⟨rfl, r⟩ (kv_zip rr)
theorem pe_dictZip {X : Cx} {e e2 : Expr} {ta : TA} {p1 p2 pos pos2 : Pos} (hc : X.calm = true) (hm1 : X.mg "dict" = none) (hm2 : X.mg "zip" = none) (ha : PA X [e, e2] ta) (hg1 : Gl X "dict" := by rfl) (hg2 : Gl X "zip" := by rfl)
    (n1 : starEach [.Call (.Name "zip" p2) [e, e2] [] pos2] X.env = (false, eval (.Call (.Name "zip" p2) [e, e2] [] pos2) X.env) :: starEach [] X.env := by rfl)
    (n2 : (backTo pos (starEach [] X.env)).any (·.1) = false := by rfl)
    (n3 : starEach [e, e2] X.env = (false, eval e X.env) :: starEach [e2] X.env := by rfl) (n4 : (backTo pos2 (starEach [e2] X.env)).any (·.1) = false := by rfl) :
    PE X (.Call (.Name "dict" p1) [.Call (.Name "zip" p2) [e, e2] [] pos2] [] pos) (tCB (rDictZip X.K) ta) := by
  refine ⟨fun pins s σ H Q I h => ?_⟩
  refine PyProof.Rows.Call_ (ld_blt I hg1 hm1 PyProof.Rows.boot_dict (PyProof.Rows.callWith_type1 (PyProof.Rows.spliced_more ?_ n1) n1 n2))
  refine PyProof.Rows.Call_ (ld_blt I hg2 hm2 PyProof.Rows.boot_zip (PyProof.Rows.callWith_type1 (thn (ha.run pos2 pins s σ H _ I h) fun us s1 ⟨vs, H1, I1, r1, q1⟩ => ?_) n3 n4))
  obtain ⟨a, b, t1, t2, ks, ys, ex, hqx, hqy, q⟩ := q1
  subst ex
  cases r1 with
  | cons r rr =>
    cases rr with
    | cons r' rr =>
      cases rr
      cases r
      cases r'
      obtain ⟨its, rv, q1⟩ := sqB_vals I1 hqx
      obtain ⟨its2, rv2, q2⟩ := sqB_vals I1 hqy
      obtain ⟨hkl, hk⟩ := key_vals rv
      have hyl := rv2.length
      have hz1 := isB_size I1 hqx
      rw [List.length_map] at hz1
      refine zip_begins2 (beginsB t1 a its.toArray) (beginsB t2 b its2.toArray) q1 q2 fun h' hz hTI hTO h1 h2 hsz hk2 => PyProof.Rows.spliced_none ?_
      have p1' : isB t1 h' a its.toArray := isB_at q1 fun o e => hk2 a o e
      have p2' : isB t2 h' b its2.toArray := isB_at q2 fun o e => hk2 b o e
      have hmin : min its.toArray.size its2.toArray.size = (ks.zip its2).length := by
        rw [List.size_toArray, List.size_toArray, List.length_zip, hkl]
      refine PySem.call_dict_pairs (knd := mixKind X.prog X.w) (kvs := ks.zip its2) (pairB (t1 := t1) (t2 := t2) (xs := its.toArray) (ys := its2.toArray) (PySem.W.ktu_apart s1.heap.objs.size a b (isB_lt q1) (isB_lt q2))) (I1.ok.hd hc)
        ⟨hz, hTI, ⟨_, _, hTO⟩, itB_new h1, itB_new h2, p1', p2'⟩ ⟨hmin.symm, fun j kk v ⟨e1, e2⟩ => ?_⟩ ?_ fun h'' tk hd' kp => ?_
      · obtain ⟨k, e3, e4⟩ := hk j kk (by simpa using e1)
        refine ⟨k, ?_, e4⟩
        rw [List.getElem?_zip_eq_some]
        exact ⟨e3, by simpa using e2⟩
      · rw [hmin, List.length_zip]
        omega
      · have hm : (h'.objs.size == sysModules) = false := beq_eq_false_iff_ne.mpr (Nat.ne_of_gt (Nat.lt_of_lt_of_le I1.big (by rw [hsz]; exact Nat.le_add_right _ _)))
        have rel : KV (ks.zip ys) (ks.zip its2) := kv_zip rv2
        have hlen : (mergeK [] (ks.zip ys)).length ≤ sizeLine := by
          refine Nat.le_trans (length_mergeK _ []) ?_
          rw [List.length_nil, Nat.zero_add, List.length_zip]
          omega
        have hkeep : ∀ (c : Addr) (o : Obj), s1.heap.get? c = some o → h''.get? c = some o := fun c o e => by
          have hlt := Heap.lt_size e
          refine kp c o (fun hc' => ?_) (hk2 c o e)
          simp only [List.mem_cons, List.not_mem_nil, or_false] at hc'
          rcases hc' with h | h | h | h <;> rw [h] at hlt <;> first | exact absurd hlt (Nat.not_lt.mpr (Nat.le_add_right _ _)) | exact absurd hlt (Nat.lt_irrefl _)
        exact ⟨.ref h'.objs.size, upd H1 h'.objs.size (.dK (mergeK [] (ks.zip ys))), I1.laid (t' := tk) hkeep (by rw [hsz]; exact Nat.le_add_right _ _) (show ObjOk X.prog X.w _ _ _ (.dK (mergeK [] (ks.zip ys))) from ⟨hlen, hm, merged [] (ks.zip its2), KV.merge rel .nil, hd'⟩), rfl,
          q _ (I1.hok.fresh (by rw [hsz]; exact Nat.le_add_right _ _))⟩
def dDictZip : List D → Option (D × Bool)
  | [d, e] => (lstD d).bind fun ds => (lstD e).bind fun es => (keysD ds).bind fun ks => some (.dict (mergeD [] (ks.zip es)), true)
  | _ => none
theorem reps_zip {K : PySem.W.Frag} {G : Hp} : ∀ {ks : List Key} {ys : List V} {es : List D}, Reps K G ys es → RepPs K G (ks.zip ys) (ks.zip es)
  | [], ys, es, _ => by
    rw [List.zip_nil_left, List.zip_nil_left]
    exact .nil
  | k :: ks, _, _, .nil => by
    rw [List.zip_nil_right, List.zip_nil_right]
    exact .nil
  | k :: ks, _, _, .cons r rr => by
    rw [List.zip_cons_cons, List.zip_cons_cons]
    exact .cons r (reps_zip rr)
theorem use_sqB {K : PySem.W.Frag} {G H : Hp} {v : V} {d : D} {ds : List D} (s : Same G H) (u : Use K G H v d) (h : lstD d = some ds) : ∃ (a : Addr) (t : Bool) (xs : List V), v = .ref a ∧ SqB K t H a xs ∧ Reps K G xs ds := by
  unfold lstD at h
  split at h
  · cases h
    obtain ⟨a, xs, rfl, h1, r⟩ := u.list s
    exact ⟨a, false, xs, rfl, h1, r⟩
  · cases h
    obtain ⟨a, xs, rfl, h1, r⟩ := u.tuple s
    exact ⟨a, true, xs, rfl, h1, r⟩
  · cases h
theorem on_dictZip {K : PySem.W.Frag} : OpN K (rDictZip K) dDictZip := fun vs ds z b G H Q s u hg k => by
  unfold dDictZip at hg
  split at hg
  · obtain ⟨es1, h1, hg⟩ := Option.bind_eq_some_iff.mp hg
    obtain ⟨es2, h2, hg⟩ := Option.bind_eq_some_iff.mp hg
    obtain ⟨ks, h3, hg⟩ := Option.bind_eq_some_iff.mp hg
    cases hg
    obtain ⟨v, w, rfl, u1, u2⟩ := u.two
    obtain ⟨a, t1, xs, rfl, g1, r1⟩ := use_sqB s u1 h1
    obtain ⟨b, t2, ys, rfl, g2, r2⟩ := use_sqB s u2 h2
    have e2 := keysD_of h3
    subst e2
    have e3 := keysD_rep r1
    subst e3
    exact ⟨a, b, t1, t2, ks, ys, rfl, g1, g2, fun p hp => k _ _ _ (New.own s hp) (Fresh.new s hp (.dK ((reps_zip r2).merge .nil)))⟩
  · cases hg
theorem fe_dictZip {X : Cx} {e e2 : Expr} {l : Av} {p1 p2 pos pos2 : Pos} (hc : X.calm = true) (hm1 : X.mg "dict" = none) (hm2 : X.mg "zip" = none) (ha : PA X [e, e2] (FA X.K l)) (hg1 : Gl X "dict" := by rfl) (hg2 : Gl X "zip" := by rfl)
    (n1 : starEach [.Call (.Name "zip" p2) [e, e2] [] pos2] X.env = (false, eval (.Call (.Name "zip" p2) [e, e2] [] pos2) X.env) :: starEach [] X.env := by rfl)
    (n2 : (backTo pos (starEach [] X.env)).any (·.1) = false := by rfl)
    (n3 : starEach [e, e2] X.env = (false, eval e X.env) :: starEach [e2] X.env := by rfl) (n4 : (backTo pos2 (starEach [e2] X.env)).any (·.1) = false := by rfl) :
    PE X (.Call (.Name "dict" p1) [.Call (.Name "zip" p2) [e, e2] [] pos2] [] pos) (FE X.K (fN l dDictZip)) :=
  pe_imp (pe_dictZip hc hm1 hm2 ha hg1 hg2 n1 n2 n3 n4) fun σ H Q h => tN_of on_dictZip h
end Fx
/-! Fx37: list(x) of a list, a tuple or a dict. -/
namespace Fx
open PySem PySem.Spec L2
def rListA (K : PySem.W.Frag) : List V → Hp → VK → Prop := fun xs H Q => (∃ p ys, xs = [V.ref p] ∧ (SqL K H p ys ∨ SqT K H p ys) ∧ ∀ l, H l = none → Q (.ref l) (upd H l (.lst ys))) ∨
  (∃ (a : Addr) (kvs : List (Key × V)), xs = [V.ref a] ∧ Rd H a (.dK kvs) ∧ ∀ p, H p = none → Q (.ref p) (upd H p (.lst (kvs.map fun kv => kV kv.1))))
theorem cr_listA {X : Cx} (hc : X.calm = true) : CallR X (.type "list") (rListA X.K) := fun pins s σ H xs us Q I r h =>
  h.elim (fun h => call_list_of pins s σ H xs us Q I r h) (fun h => call_listD hc pins s σ H xs us Q I r h)
def dListA : List D → Option (D × Bool)
  | [.dict es] => some (.list (es.map (·.1)), true)
  | ds => dList ds
theorem on_listA {K : PySem.W.Frag} : OpN K (rListA K) dListA := fun vs ds z b G H Q s u hg k => by
  unfold dListA at hg
  split at hg
  · cases hg
    obtain ⟨v, rfl, u0⟩ := u.one
    obtain ⟨a, kvs, rfl, h, r⟩ := u0.dict s
    exact .inr ⟨a, kvs, rfl, h, fun p hp => k _ _ _ (New.own s hp) (Fresh.new s hp (.lst (repKV_keys r)))⟩
  · exact .inl (on_list vs ds z b G H Q s u hg k)
end Fx
/-! Fx38: list(d.items()). -/
namespace Fx
open PySem PySem.Spec L2
theorem itM_off {b : Addr} : ∀ {H H2 : Hp} {kvs : List (Key × V)} {ys : List V}, ItM H kvs H2 ys → V.ref b ∉ ys → H2 b = H b
  | _, _, _, _, .nil, _ => rfl
  | H, H2, _, _, .cons (p := p) (o := o) (k := k) (v := v) hp ho t, hb => by
    have h1 := itM_off t fun z => hb (List.mem_cons_of_mem _ z)
    rw [h1, upd_ne (fun z => hb (by rw [z]; exact List.mem_cons_self ..))]
theorem vals_mem : ∀ {ys : List V} {as : List Addr} {b : Addr}, Vals ys (as.map Value.ref) → V.ref b ∈ ys → b ∈ as
  | _, [], _, .nil, h => by cases h
  | _, a :: as, b, .cons r t, h => by
    rcases List.mem_cons.mp h with e | h
    · rw [← e] at r
      have r : Value.ref a = Value.ref b := r
      cases r
      exact List.mem_cons_self ..
    · exact List.mem_cons_of_mem _ (vals_mem t h)
def rListIK (K : PySem.W.Frag) : List V → Hp → VK → Prop := fun vs H Q => ∃ (p a : Addr) (kvs : List (Key × V)), vs = [.ref p] ∧ H p = some (DX.itemsO p a) ∧ Rd H a (.dK kvs) ∧
  ∀ H2 ys q, ItM H kvs H2 ys → H2 q = none → Q (.ref q) (upd H2 q (.lst ys))
theorem cr_listIK {X : Cx} (hc : X.calm = true) : CallR X (.type "list") (rListIK X.K) := by
  intro pins s σ H xs us Q I r ⟨p, a, kvs, e, hp, h, q⟩
  subst e
  obtain ⟨u, rfl, rx⟩ := Vals.one r
  cases rx
  have view : s.heap.IsItemsView p a := (show ObjOk X.prog X.w H s.heap p (DX.itemsO p a) from I.hok p _ hp).1
  obtain ⟨z, lo, vs, rel, dd⟩ := dk_rd I.hok h
  obtain ⟨ep, hat⟩ := dd.dictAt
  refine PySem.W.kdx_call (knd := mixKind X.prog X.w) (I.ok.hd hc) view hat (by rw [← rel.length]; exact z) fun h' tk acc c as hk hL hl g hacc => ?_
  have nd : as.Nodup := List.Pairwise.imp (fun h => Nat.ne_of_lt h) g.rise
  have ab : ∀ b ∈ as, s.heap.get? b = none ∧ H b = none := fun b hb => by
    have h1 := Nat.le_of_lt (g.above b hb)
    refine ⟨?_, I.hok.fresh h1⟩
    cases e : s.heap.get? b with
    | none => rfl
    | some o => exact absurd (Heap.lt_size e) (Nat.not_lt.mpr h1)
  have I1 : Inv X pins σ H { s with heap := h', toks := tk } := I.kept hk
  obtain ⟨H2, ys, w1, w2, w3, w4⟩ := items_laid (P := X.prog) (w := X.w) (fs := X.fs) (ex := []) (H0 := H) (h := s.heap) (by rw [sizeLine_eq]; omega) rel hl (by
      exact ⟨fun b u q _ _ _ => hk b u q, fun b u q _ _ _ => ⟨u.slots, hk b u q⟩, fun b u q n _ => n, fun b u q _ => ⟨u, hk b u q⟩, fun _ _ q => q, fun _ _ _ q => q, fun b ps q => ⟨#[], by rw [q]; simp⟩⟩) I1.hok ab nd g.pairs
  have hLn : s.heap.get? s.heap.objs.size = none := by
    cases e : s.heap.get? s.heap.objs.size with
    | none => rfl
    | some o => exact absurd (Heap.lt_size e) (Nat.lt_irrefl _)
  have hLH : H s.heap.objs.size = none := I.hok.fresh (Nat.le_refl _)
  have hny : V.ref s.heap.objs.size ∉ ys := fun hm => by
    have := g.above _ (vals_mem w2 hm)
    exact absurd this (Nat.lt_irrefl _)
  have hL2 : H2 s.heap.objs.size = none := by rw [itM_off w1 hny, hLH]
  have hz : (as.map Value.ref).length ≤ sizeLine := by
    rw [List.length_map, hl, ← rel.length]
    exact z
  have ok2 : HOk X.prog X.w (upd H2 s.heap.objs.size (.lst ys)) h' := by
    refine HOk.laidN w4 (fun _ _ e => e) hL2 ?_
    have hys : ys.length ≤ sizeLine := by
      rw [w2.length]
      exact hz
    refine ⟨hys, as.map Value.ref, c, w2, ?_⟩
    have : acc = (as.map Value.ref).toArray := by rw [← hacc]
    rw [← this]
    exact hL
  exact ⟨.ref s.heap.objs.size, upd H2 s.heap.objs.size (.lst ys), I.un (un_more w3 hLn hL2) ok2, rfl, q H2 ys _ w1 hL2⟩
def dListI : D → Option (D × Bool)
  | .dict es => some (.list (es.map fun p => .tuple [p.1, p.2]), true)
  | _ => none
theorem fe_listI {X : Cx} {o : Expr} {p : Ov} {np apos cpos pos : Pos} (hc : X.calm = true) (hm : X.mg "list" = none) (ho : PE X o (FO X.K p)) (hg : Gl X "list" := by rfl) (hbase : attributeBase o "items" X.env (eval o X.env) = eval o X.env := by rfl) (hline : (apos.endLine == cpos.line) = true := by rfl)
    (he : starEach [.Call (.Attribute o "items" apos) [] [] cpos] X.env = [(false, eval (.Call (.Attribute o "items" apos) [] [] cpos) X.env)] := by rfl) (hpl : (backTo pos (starEach [] X.env)).any (·.1) = false := by rfl) :
    PE X (.Call (.Name "list" np) [.Call (.Attribute o "items" apos) [] [] cpos] [] pos) (FE X.K (f1 p dListI)) :=
  pe_imp (pe_callTy (cr_listIK hc) hg hm PyProof.Rows.boot_list (pa_cons (pe_mG0 (kindD X).ok PySem.F.plainAttrs_dict PySem.F.slot_dict_items PySem.F.type_dict_items mt_itemsK ho hbase hline) pa_nil he) (by decide) (by decide) he hpl) fun σ H Q ⟨G, en, d, b, en', S, e1, k⟩ => by
    obtain ⟨⟨x, en1⟩, p1, e2⟩ := Option.bind_eq_some_iff.mp e1
    obtain ⟨d0, p3, e4⟩ := Option.bind_eq_some_iff.mp e2
    obtain ⟨⟨z', b'⟩, p5, e6⟩ := Option.map_eq_some_iff.mp e4
    cases e6
    unfold dListI at p5
    split at p5
    · cases p5
      refine ⟨G, en, x, en1, S, p1, fun v G1 H1 T1 r1 => ?_⟩
      have U := r1.use T1.sr p3
      obtain ⟨a, kvs, rfl, h, r⟩ := U.dict T1.sr.sub
      refine ⟨(kindD X).use T1.sr.sub U rfl, a, kvs, rfl, rfl, h, fun q hq => ?_⟩
      have N0 := New.own (o := DX.itemsO q a) T1.sr.sub hq
      refine ⟨q, a, kvs, rfl, upd_same, rdS (fun b o e => N0.ext.h b o e (fun z => z)) h, fun H2 ys l im hl => ?_⟩
      obtain ⟨G2, N2, r2⟩ := repKV_items im r N0.sub
      have N3 := New.own (o := .lst ys) N2.sub hl
      have N : New G1 H1 G2 (upd H2 l (.lst ys)) := ⟨(N0.ext.trans N2.ext fun _ h => .inl h).trans N3.ext fun _ h => .inl h, N3.sub⟩
      refine k _ _ _ (T1.trans (N.step T1.sr)) (Fresh.res' T1 ?_)
      obtain ⟨a, o, e, q1, q2, q3, q4, q5⟩ := Fresh.new (K := X.K) N2.sub hl (.lst r2)
      refine ⟨a, o, e, .inl ?_, q2, q3, q4, q5⟩
      cases e
      exact N0.ext.t l (N2.ext.t l hl)
    · cases p5
end Fx
/-! Fx39: len(set(..)) of keys; str(..) of texts and whole numbers. -/
namespace Fx
open PySem PySem.Spec L2
def rLenSetG (P : Program) (w : World) : List V → Hp → VK → Prop := fun vs H Q => ∃ (a : Addr) (ks : List Key) (n : Nat), vs = [.ref a] ∧ H a = some (SetGO P w a (fun j => inK ks j) n) ∧ n ≤ 1000 ∧ Q (.int n) H
section
variable {X : Cx} {e : Expr} {p1 p2 pos pos2 : Pos}
theorem cr_lenSetG : CallR X (.builtin "len") (rLenSetG X.prog X.w) := by
  intro pins s σ H xs us Q I r ⟨a, ks, n, e, ha, hz, q⟩
  subst e
  rw [Vals.ref1 r]
  obtain ⟨o, es, ep, t, ho, hex, hd, g, nd, hm, hb, hf, hn, hr, hl⟩ := setGO_get I ha
  refine call_len_set ho hex hd hf (by rw [hn] <;> omega) ⟨.int n, H, I.tok _, ⟨_, by rw [hn]⟩, q⟩
def dLenSet : List D → Option (D × Bool)
  | [d] => (lstD d).bind fun ds => (keysD ds).bind fun ks => if ks.length ≤ 1000 then some (.int ((dedK ks).length : Nat), false) else none
  | _ => none
theorem fe_lenSet {l : Av} (hc : X.calm = true) (hm1 : X.mg "len" = none) (hm2 : X.mg "set" = none) (ha : PA X [e] (FA X.K l)) (hg1 : Gl X "len" := by rfl) (hg2 : Gl X "set" := by rfl) (n1 : starEach [e] X.env = (false, eval e X.env) :: starEach [] X.env := by rfl)
    (n2 : starEach [.Call (.Name "set" p2) [e] [] pos2] X.env = (false, eval (.Call (.Name "set" p2) [e] [] pos2) X.env) :: starEach [] X.env := by rfl) : PE X (.Call (.Name "len" p1) [.Call (.Name "set" p2) [e] [] pos2] [] pos) (FE X.K (fN l dLenSet)) :=
  pe_imp (pe_callB cr_lenSetG hg1 hm1 PySem.boot_len (pa_cons (pe_callTy (cr_setGL hc) hg2 hm2 PyProof.Rows.boot_set ha (by decide) (by decide) n1 rfl) pa_nil n2) (by decide) (by decide) n2 rfl) fun σ H Q h => by
    refine tN_of (r := fun vs H Q => rSetGL X.K X.prog X.w vs H fun v H1 => rLenSetG X.prog X.w [v] H1 Q) ?_ h
    intro vs ds z b G H Q s u hg k
    unfold dLenSet at hg
    split at hg
    · obtain ⟨es, h1, hg⟩ := Option.bind_eq_some_iff.mp hg
      obtain ⟨ks, h2, hg⟩ := Option.bind_eq_some_iff.mp hg
      obtain ⟨h3, hg⟩ := ite_some hg
      cases hg
      obtain ⟨v, rfl, u0⟩ := u.one
      have fin : ∀ p, H p = none → rLenSetG X.prog X.w [V.ref p] (upd H p (SetGO X.prog X.w p (fun j => inK ks j) (dedK ks).length)) Q := fun p hp => by
        refine ⟨p, ks, _, rfl, upd_same, Nat.le_trans (dedK_len ks) h3, ?_⟩
        have N := New.own (o := SetGO X.prog X.w p (fun j => inK ks j) (dedK ks).length) s hp
        exact k _ _ _ N (.int _)
      have e2 := keysD_of h2
      unfold lstD at h1
      split at h1
      · cases h1
        obtain ⟨a, xs, rfl, h, r⟩ := u0.list s
        subst e2
        exact ⟨a, ks, rfl, .inl (keysD_rep r ▸ h), h3, fin⟩
      · cases h1
        obtain ⟨a, xs, rfl, h, r⟩ := u0.tuple s
        subst e2
        exact ⟨a, ks, rfl, .inr (keysD_rep r ▸ h), h3, fin⟩
      · cases h1
    · cases hg
end
def dStrA : List D → Option (D × Bool)
  | [.int i] => if i.natAbs.log2 < 1920 then some (.str (toString i), false) else none
  | [.str x] => some (.str x, false)
  | _ => none
section
variable {X : Cx} {K : PySem.W.Frag}
theorem on_strA : OpN K (fun xs H Q => (∃ i, xs = [V.int i] ∧ i.natAbs.log2 < 1920 ∧ Q (V.str (toString i)) H) ∨ ∃ k, xs = [V.str k] ∧ Q (V.str k) H) dStrA := fun vs ds z b G H Q s u hg k => by
  unfold dStrA at hg
  split at hg
  · obtain ⟨hi, hg⟩ := ite_some hg
    cases hg
    obtain ⟨v, rfl, u0⟩ := u.one
    exact .inl ⟨_, by rw [u0.int], hi, k _ G H (New.refl s) (Fresh.sh (.str _))⟩
  · cases hg
    obtain ⟨v, rfl, u0⟩ := u.one
    exact .inr ⟨_, by rw [u0.str], k _ G H (New.refl s) (Fresh.sh (.str _))⟩
  · cases hg
theorem cr_strA : CallR X (.type "str") (fun xs H Q => (∃ i, xs = [V.int i] ∧ i.natAbs.log2 < 1920 ∧ Q (V.str (toString i)) H) ∨ ∃ k, xs = [V.str k] ∧ Q (V.str k) H) := fun pins s σ H xs us Q I r h =>
  h.elim (fun h => call_str_int pins s σ H xs us Q I r h) (fun h => SkE.call_str_str pins s σ H xs us Q I r h)
end
/-! ### a tuple of anything against () -/
def rEqT (K : PySem.W.Frag) : R2 := fun x y H Q => (∃ a b xs, x = .ref a ∧ y = .ref b ∧ SqT K H a xs ∧ SqT K H b [] ∧ Q (.bl xs.isEmpty) H) ∨ rEqD K x y H Q
def dEqT : D → D → Option (D × Bool)
  | .tuple ds, .tuple [] => some (.bool ds.isEmpty, false)
  | d, e => dEq d e
section
variable {X : Cx} {K : PySem.W.Frag}
theorem op_eqT (hu : X.A.units + 64 < cLine) : OpR X (compareOp .Eq) (rEqT X.K) := by
  intro pins s σ H x y v u Q I rx ry h
  rcases h with ⟨a, b, xs, rfl, rfl, ha, hb, q⟩ | h
  · cases rx
    cases ry
    obtain ⟨its, rv, pl, hz⟩ := I.tuple ha
    obtain ⟨its2, rv2, pl2, hz2⟩ := I.tuple hb
    cases rv2
    refine PySem.SeqAt.eq_tupleAt (e := fun _ => false) (show s.heap.IsTuple a its.toArray from pl) (show s.heap.IsTuple b #[] from pl2) (by omega) (fun j h1 h2 => absurd h2 (Nat.not_lt_zero _)) ?_
    have e : ((List.range (min its.toArray.size (#[] : Array Value).size)).all (fun _ => false) && its.toArray.size == (#[] : Array Value).size) = xs.isEmpty := by
      have hl := rv.length
      cases its with
      | nil => cases xs with
        | nil => rfl
        | cons a b => cases hl
      | cons c d => cases xs with
        | nil => cases hl
        | cons a b => simp
    rw [e]
    exact ⟨.bl _, H, I, rfl, q⟩
  · exact op_eqD hu pins s σ H x y v u Q I rx ry h
theorem o2_eqT : Op2 K (rEqT K) dEqT := fun x y d e z b G H Q s u1 u2 hg k => by
  unfold dEqT at hg
  split at hg
  · cases hg
    obtain ⟨a, xs, rfl, h1, r1⟩ := u1.tuple s
    obtain ⟨b, ys, rfl, h2, r2⟩ := u2.tuple s
    cases r2
    refine .inl ⟨a, b, xs, rfl, rfl, h1, h2, ?_⟩
    rename_i ds
    have e : xs.isEmpty = ds.isEmpty := by
      have hl := r1.length
      cases xs <;> cases ds <;> first | rfl | cases hl
    rw [e]
    exact k _ G H (New.refl s) (Fresh.sh (.bl _))
  · exact .inr (o2_eq x y _ _ z b G H Q s u1 u2 hg k)
end
/-! ### what is left over, by any number but 0 -/
def iModN : Int → Int → Option D := fun i j => if j = 0 then none else some (.int (i.fmod j))
section
variable {K : PySem.W.Frag}
theorem o2_modN : Op2 K (rI (fun _ j => j ≠ 0) fun i j => .int (i.fmod j)) (isI iModN) := op2_int fun i j z H Q e k => by
  unfold iModN at e
  split at e
  · cases e
  · rename_i h
    exact ⟨i, j, rfl, rfl, h, k _ (by cases e; exact fun _ => .int _)⟩
end
end Fx
namespace Hd
open PySem PySem.Spec L2 Fx
abbrev recN : Nat := 20
structure Mg (mg : Str → Option Value) : Prop where
  abs : mg "abs" = none
  all : mg "all" = none
  bool : mg "bool" = none
  dict : mg "dict" = none
  int : mg "int" = none
  isinstance : mg "isinstance" = none
  len : mg "len" = none
  list : mg "list" = none
  max : mg "max" = none
  min : mg "min" = none
  range : mg "range" = none
  set : mg "set" = none
  sorted : mg "sorted" = none
  str : mg "str" = none
  tuple : mg "tuple" = none
  c_LETTERS : ∃ t, mg "LETTERS" = some (.str "abcdefghijklmnopqrstuvwxyz" t)
  c_DIGITS : ∃ t, mg "DIGITS" = some (.str "0123456789" t)
def b_is_number : Sv := sRet (fAnd (fIsi (fSlot 0) "int") (fNot (fIsi (fSlot 0) "bool")))
def F_is_number : List D → Option (D × Bool) := mk0 1 b_is_number
theorem sc_is_number : FnScope ["thing"] ["thing"] (defScope s_is_number) := ⟨rfl, rfl, rfl, by decide +kernel, rfl, by decide +kernel, by decide +kernel⟩
theorem fn_is_number {P : Program} {w : World} {K : PySem.W.Frag} {mg : Str → Option Value} {base : Heap} {f : Addr} {fd : FuncData} (M : Mg mg) (F : FunD K "is_number" "is_number" (defArgs s_is_number) (defBody s_is_number) (defScope s_is_number) [] [] f fd)  : FnOk P w K mg base CX0 1 f fd ["thing"] (sp0 K 1 F_is_number) := by
  have hN := sc_is_number.nd
  refine ok_def0 F sc_is_number fun cdv A outer s H E hr => ?_
  have hc : (cxOf CX0 P w K mg base ["thing"] "is_number" (defScope s_is_number) f cdv A outer s H E).nox.calm = true := rfl
  exact (fs_one (fs_ret (fe_and (fe_isi (fo_name (pv 0)) M.isinstance M.int) (fe_one (fe_not (fe_isi (fo_name (pv 0)) M.isinstance M.bool))))))
theorem ok_is_number {P : Program} {w : World} {K : PySem.W.Frag} {mg : Str → Option Value} {base : Heap} {f : Addr} {fd : FuncData} (M : Mg mg) (F : FunD K "is_number" "is_number" (defArgs s_is_number) (defBody s_is_number) (defScope s_is_number) [] [] f fd)  (hm : mg "is_number" = some (.ref f)) : Ow P w K mg base 1 "is_number" ["thing"] (sp0 K 1 F_is_number) :=
  ⟨f, fd, hm, F.kp, F.bindsN fun _ _ _ _ _ _ us hl => match us, hl with | [_], _ => rfl, fn_is_number M F ⟩
def b_is_name : Sv := sSeq (sIf (tOrF (tNotF (tB1 (fIsi (fSlot 0) "str"))) (tOrF (tB1 (f2 (fSlot 0) (svO (fC (.str ""))) (dEq))) (tB1 (f2 (toO (f2 (fSlot 0) (svO (fC (.int 0))) dIxA)) (svO (fC (.str "abcdefghijklmnopqrstuvwxyz"))) (dNotIn))))) (sRet (ofV (fC (.bool false)))) (sNx)) (sRet (fN (aCons (toO (fLc [1] (itV (fName 0)) (gN 1) (tTrue) (toV (fOr (f2 (fSlot 1) (svO (fC (.str "abcdefghijklmnopqrstuvwxyz"))) (dIn)) (f2 (fSlot 1) (svO (fC (.str "0123456789"))) (dIn)))))) (aNil)) dAll))
def F_is_name : List D → Option (D × Bool) := mk0 2 b_is_name
theorem sc_is_name : FnScope ["thing", "sign"] ["thing"] (defScope s_is_name) := ⟨rfl, rfl, rfl, by decide +kernel, rfl, by decide +kernel, by decide +kernel⟩
theorem fn_is_name {P : Program} {w : World} {K : PySem.W.Frag} {mg : Str → Option Value} {base : Heap} {f : Addr} {fd : FuncData} (M : Mg mg) (F : FunD K "is_name" "is_name" (defArgs s_is_name) (defBody s_is_name) (defScope s_is_name) [] [] f fd)  : FnOk P w K mg base CX0 1 f fd ["thing"] (sp0 K 1 F_is_name) := by
  have hN := sc_is_name.nd
  refine ok_def0 F sc_is_name fun cdv A outer s H E hr => ?_
  have hc : (cxOf CX0 P w K mg base ["thing", "sign"] "is_name" (defScope s_is_name) f cdv A outer s H E).nox.calm = true := rfl
  exact (fs_cons (fs_if (PW.pt (fw_or (ft_not (ft_val (fe_isi (fo_name (pv 0)) M.isinstance M.str))) (fw_or (ft_cmp o2_eq (op_eqD hr.u64) (fo_name (pv 0)) (fo_v fv_str) (nomark _)) (fw_or1 (ft_cmp o2_notIn (op_notInA hr.u65) (fo_e (fe_ix o2_ixA (ix_A hr.u1) (fo_name (pv 0)) (fo_v fv_int) (fun _ _ => rfl))) (fo_v (fv_globS M.c_LETTERS)) (by rfl)))))) (fs_one (fs_ret (fe_v fv_bl))) fs_nil) (fs_one (fs_ret (fe_callB on_all (cr_all hc) M.all (fa_cons (fo_e (fe_lc (own := [("sign", 1)]) hc hN (fi_val (fv_name (pv 0))) (blkOf (by kernel_rfl)) (by decide) (fun _ _ _ _ _ => (fg_name hN)) (fun _ _ _ _ _ => ft_none) (fun _ _ _ _ _ => (fv_e (fe_or (fe_cmp o2_in (op_inA hr.u65) (fo_name (pv 1)) (fo_v (fv_globS M.c_LETTERS)) (by rfl)) (fe_one (fe_cmp o2_in (op_inA hr.u65) (fo_name (pv 1)) (fo_v (fv_globS M.c_DIGITS)) (by rfl)))))))) fa_nil)))))
theorem ok_is_name {P : Program} {w : World} {K : PySem.W.Frag} {mg : Str → Option Value} {base : Heap} {f : Addr} {fd : FuncData} (M : Mg mg) (F : FunD K "is_name" "is_name" (defArgs s_is_name) (defBody s_is_name) (defScope s_is_name) [] [] f fd)  (hm : mg "is_name" = some (.ref f)) : Ow P w K mg base 1 "is_name" ["thing"] (sp0 K 1 F_is_name) :=
  ⟨f, fd, hm, F.kp, F.bindsN fun _ _ _ _ _ _ us hl => match us, hl with | [_], _ => rfl, fn_is_name M F ⟩
def b_common : Sv := sSeq (whileL (tB1 (f2 (fSlot 1) (svO (fC (.int 0))) (dNe))) (sParN [0, 1] (mCons (ofV (fName 1)) (mCons (f2 (fSlot 0) (fSlot 1) (isI iModN)) (mNil)))) fuelN) (sRet (fN (aCons (fSlot 0) (aNil)) dAbs))
def F_common : List D → Option (D × Bool) := mk0 2 b_common
theorem sc_common : FnScope ["a", "b"] ["a", "b"] (defScope s_common) := ⟨rfl, rfl, rfl, by decide +kernel, rfl, by decide +kernel, by decide +kernel⟩
theorem fn_common {P : Program} {w : World} {K : PySem.W.Frag} {mg : Str → Option Value} {base : Heap} {f : Addr} {fd : FuncData} (M : Mg mg) (F : FunD K "common" "common" (defArgs s_common) (defBody s_common) (defScope s_common) [] [] f fd)  : FnOk P w K mg base CX0 1 f fd ["a", "b"] (sp0 K 2 F_common) := by
  have hN := sc_common.nd
  refine ok_def0 F sc_common fun cdv A outer s H E hr => ?_
  have hc : (cxOf CX0 P w K mg base ["a", "b"] "common" (defScope s_common) f cdv A outer s H E).nox.calm = true := rfl
  exact (fs_cons (fs_while PassesOwn.never (ft_cmp o2_ne (op_neD hr.u64) (fo_name (pv 1)) (fo_v fv_int) (nomark _)) (fs_one (fs_par2 (i := 0) (j := 1) hc hN (fm_cons (fe_v (fv_name (pv 1))) (fm_cons (fe_op o2_modN op_modN (fo_name (pv 0)) (fo_name (pv 1))) fm_nil))))) (fs_one (fs_ret (fe_callB on_abs call_abs M.abs (fa_cons (fo_name (pv 0)) fa_nil)))))
theorem ok_common {P : Program} {w : World} {K : PySem.W.Frag} {mg : Str → Option Value} {base : Heap} {f : Addr} {fd : FuncData} (M : Mg mg) (F : FunD K "common" "common" (defArgs s_common) (defBody s_common) (defScope s_common) [] [] f fd)  (hm : mg "common" = some (.ref f)) : Ow P w K mg base 1 "common" ["a", "b"] (sp0 K 2 F_common) :=
  ⟨f, fd, hm, F.kp, F.bindsN fun _ _ _ _ _ _ us hl => match us, hl with | [_, _], _ => rfl, fn_common M F ⟩
def b_are_samples : Sv := sSeq (sIf (tOrF (tNotF (tB1 (fIsi (fSlot 0) "tuple"))) (tOrF (tB1 (f2 (fSlot 0) (svO (fTup (lNil))) (dEqT))) (tNotF (tB1 (fN (aCons (toO (fLc [1] (itV (fName 0)) (gN 1) (tTrue) (toV (fIsi (fSlot 1) "dict")))) (aNil)) dAll))))) (sRet (ofV (fC (.bool false)))) (sNx)) (sSeq (sSet 2 (fN (aCons (toO (fLc [3] (itE (toV (f2 (fSlot 0) (svO (fC (.int 0))) dIxA))) (gN 3) (tTrue) (toV (fN (aCons (fSlot 3) (aNil)) dStrA)))) (aNil)) dSort)) (sSeq (sFor (itV (fName 0)) (gN 1) (sIf (tOrF (tNotF (tB1 (fN (aCons (toO (fLc [3] (itE (fName 1)) (gN 3) (tTrue) (toV (fAnd (fCall 1 (lCons (fName 3) (lNil)) F_is_name) (fCall 1 (lCons (toV (f2 (fSlot 1) (fSlot 3) dIxA)) (lNil)) F_is_number))))) (aNil)) dAll))) (tB1 (f2 (toO (fN (aCons (fSlot 1) (aNil)) dSort)) (fSlot 2) (dNe)))) (sRet (ofV (fC (.bool false)))) (sNx))) (sRet (ofV (fC (.bool true))))))
def F_are_samples : List D → Option (D × Bool) := mk0 4 b_are_samples
theorem sc_are_samples : FnScope ["thing", "one", "names", "name"] ["thing"] (defScope s_are_samples) := ⟨rfl, rfl, rfl, by decide +kernel, rfl, by decide +kernel, by decide +kernel⟩
theorem fn_are_samples {P : Program} {w : World} {K : PySem.W.Frag} {mg : Str → Option Value} {base : Heap} {f : Addr} {fd : FuncData} (M : Mg mg) (F : FunD K "are_samples" "are_samples" (defArgs s_are_samples) (defBody s_are_samples) (defScope s_are_samples) [] [] f fd) (c_is_name : Ow P w K mg base 1 "is_name" ["thing"] (sp0 K 1 F_is_name)) (c_is_number : Ow P w K mg base 1 "is_number" ["thing"] (sp0 K 1 F_is_number)) : FnOk P w K mg base CX0 2 f fd ["thing"] (sp0 K 1 F_are_samples) := by
  have hN := sc_are_samples.nd
  refine ok_def0 F sc_are_samples fun cdv A outer s H E hr => ?_
  have hc : (cxOf CX0 P w K mg base ["thing", "one", "names", "name"] "are_samples" (defScope s_are_samples) f cdv A outer s H E).nox.calm = true := rfl
  exact (fs_cons (fs_if (PW.pt (fw_or (ft_not (ft_val (fe_isi (fo_name (pv 0)) M.isinstance M.tuple))) (fw_or (ft_cmp o2_eqT (op_eqT hr.u64) (fo_name (pv 0)) (fo_v (fv_tup fl_nil)) (nomark _)) (fw_or1 (ft_not (ft_val (fe_callB on_all (cr_all hc) M.all (fa_cons (fo_e (fe_lc (own := [("one", 1)]) hc hN (fi_val (fv_name (pv 0))) (blkOf (by kernel_rfl)) (by decide) (fun _ _ _ _ _ => (fg_name hN)) (fun _ _ _ _ _ => ft_none) (fun _ _ _ _ _ => (fv_e (fe_isi (fo_name (pv 1)) M.isinstance M.dict))))) fa_nil)))))))) (fs_one (fs_ret (fe_v fv_bl))) fs_nil) (fs_cons (fs_set (i := 2) hN (fe_callB on_sort (cr_sortG hc hr.u64) M.sorted (fa_cons (fo_e (fe_lcE (own := [("name", 3)]) hc hN (fi_valE (fv_e (fe_ix o2_ixA (ix_A hr.u1) (fo_name (pv 0)) (fo_v fv_int) (fun _ _ => rfl)))) (blkOf (by kernel_rfl)) (by decide) (fun _ _ _ _ _ => (fg_name hN)) (fun _ _ _ _ _ => ft_none) (fun _ _ _ _ _ => (fv_e (fe_callTy on_strA cr_strA M.str (fa_cons (fo_name (pv 3)) fa_nil)))))) fa_nil))) (fs_cons (fs_for PassesOwn.never hc (fi_val (fv_name (pv 0))) (fg_name hN) (fs_one (fs_if (PW.pt (fw_or (ft_not (ft_val (fe_callB on_all (cr_all hc) M.all (fa_cons (fo_e (fe_lcE (own := [("name", 3)]) hc hN (fi_valE (fv_name (pv 1))) (blkOf (by kernel_rfl)) (by decide) (fun _ _ _ _ _ => (fg_name hN)) (fun _ _ _ _ _ => ft_none) (fun _ _ _ _ _ => (fv_e (fe_and (fe_callO c_is_name hr (fl_cons (fv_name (pv 3)) fl_nil) (by first | decide | omega | (simp only [Nat.add_eq]; omega))) (fe_one (fe_callO c_is_number hr (fl_cons (fv_e (fe_ix o2_ixA (ix_A hr.u1) (fo_name (pv 1)) (fo_name (pv 3)) (fun _ _ => rfl))) fl_nil) (by first | decide | omega | (simp only [Nat.add_eq]; omega))))))))) fa_nil)))) (fw_or1 (ft_cmp o2_ne (op_neD hr.u64) (fo_e (fe_callB on_sort (cr_sortG hc hr.u64) M.sorted (fa_cons (fo_name (pv 1)) fa_nil))) (fo_name (pv 2)) (nomark _))))) (fs_one (fs_ret (fe_v fv_bl))) fs_nil))) (fs_one (fs_ret (fe_v fv_bl))))))
theorem ok_are_samples {P : Program} {w : World} {K : PySem.W.Frag} {mg : Str → Option Value} {base : Heap} {f : Addr} {fd : FuncData} (M : Mg mg) (F : FunD K "are_samples" "are_samples" (defArgs s_are_samples) (defBody s_are_samples) (defScope s_are_samples) [] [] f fd) (c_is_name : Ow P w K mg base 1 "is_name" ["thing"] (sp0 K 1 F_is_name)) (c_is_number : Ow P w K mg base 1 "is_number" ["thing"] (sp0 K 1 F_is_number)) (hm : mg "are_samples" = some (.ref f)) : Ow P w K mg base 2 "are_samples" ["thing"] (sp0 K 1 F_are_samples) :=
  ⟨f, fd, hm, F.kp, F.bindsN fun _ _ _ _ _ _ us hl => match us, hl with | [_], _ => rfl, fn_are_samples M F c_is_name c_is_number⟩
def b_constants : Sv := sSeq (sSet 1 (f2 (fSlot 0) (svO (fC (.int 0))) dIxA)) (sRet (fN (aCons (toO (fLc [2] (itV (toV (fN (aCons (fSlot 1) (aNil)) dSort))) (gN 2) (tB1 (fN (aCons (toO (fLc [3] (itV (fName 0)) (gN 3) (tTrue) (toV (f2 (toO (f2 (fSlot 3) (fSlot 2) dIxA)) (toO (f2 (fSlot 1) (fSlot 2) dIxA)) (dEq))))) (aNil)) dAll)) (fTup (lCons (fName 2) (lCons (toV (f2 (fSlot 1) (fSlot 2) dIxA)) (lNil)))))) (aNil)) dDict))
def F_constants : List D → Option (D × Bool) := mk0 4 b_constants
theorem sc_constants : FnScope ["samples", "first", "name", "one"] ["samples"] (defScope s_constants) := ⟨rfl, rfl, rfl, by decide +kernel, rfl, by decide +kernel, by decide +kernel⟩
theorem fn_constants {P : Program} {w : World} {K : PySem.W.Frag} {mg : Str → Option Value} {base : Heap} {f : Addr} {fd : FuncData} (M : Mg mg) (F : FunD K "constants" "constants" (defArgs s_constants) (defBody s_constants) (defScope s_constants) [] [] f fd)  : FnOk P w K mg base CX0 1 f fd ["samples"] (sp0 K 1 F_constants) := by
  have hN := sc_constants.nd
  refine ok_def0 F sc_constants fun cdv A outer s H E hr => ?_
  have hc : (cxOf CX0 P w K mg base ["samples", "first", "name", "one"] "constants" (defScope s_constants) f cdv A outer s H E).nox.calm = true := rfl
  exact (fs_cons (fs_set (i := 1) hN (fe_ix o2_ixA (ix_A hr.u1) (fo_name (pv 0)) (fo_v fv_int) (fun _ _ => rfl))) (fs_one (fs_ret (fe_callTy on_dict (cr_dictOf hc) M.dict (fa_cons (fo_e (fe_lc (own := [("name", 2)]) hc hN (fi_val (fv_e (fe_callB on_sort (cr_sortG hc hr.u64) M.sorted (fa_cons (fo_name (pv 1)) fa_nil)))) (blkOf (by kernel_rfl)) (by decide) (fun _ _ _ _ _ => (fg_name hN)) (fun _ _ _ _ _ => (ft_one (ft_val (fe_callB on_all (cr_all hc) M.all (fa_cons (fo_e (fe_lc (own := [("one", 3)]) hc hN (fi_val (fv_name (pv 0))) (blkOf (by kernel_rfl)) (by decide) (fun _ _ _ _ _ => (fg_name hN)) (fun _ _ _ _ _ => ft_none) (fun _ _ _ _ _ => (fv_e (fe_cmp o2_eq (op_eqD hr.u64) (fo_e (fe_ix o2_ixA (ix_A hr.u1) (fo_name (pv 3)) (fo_name (pv 2)) (fun _ _ => rfl))) (fo_e (fe_ix o2_ixA (ix_A hr.u1) (fo_name (pv 1)) (fo_name (pv 2)) (fun _ _ => rfl))) (nomark _)))))) fa_nil))))) (fun _ _ _ _ _ => (fv_tup (fl_cons (fv_name (pv 2)) (fl_cons (fv_e (fe_ix o2_ixA (ix_A hr.u1) (fo_name (pv 1)) (fo_name (pv 2)) (fun _ _ => rfl))) fl_nil)))))) fa_nil)))))
theorem ok_constants {P : Program} {w : World} {K : PySem.W.Frag} {mg : Str → Option Value} {base : Heap} {f : Addr} {fd : FuncData} (M : Mg mg) (F : FunD K "constants" "constants" (defArgs s_constants) (defBody s_constants) (defScope s_constants) [] [] f fd)  (hm : mg "constants" = some (.ref f)) : Ow P w K mg base 1 "constants" ["samples"] (sp0 K 1 F_constants) :=
  ⟨f, fd, hm, F.kp, F.bindsN fun _ _ _ _ _ _ us hl => match us, hl with | [_], _ => rfl, fn_constants M F ⟩
def b_ranges : Sv := sSeq (sSet 1 (fun en => some (.dict [], true, en))) (sSeq (sFor (itV (toV (fN (aCons (toO (f2 (fSlot 0) (svO (fC (.int 0))) dIxA)) (aNil)) dSort))) (gN 2) (sSeq (sSet 3 (fLc [4] (itV (fName 0)) (gN 4) (tTrue) (toV (f2 (fSlot 4) (fSlot 2) dIxA)))) (sAsg (fTup (lCons (toV (fN (aCons (fSlot 3) (aNil)) (dPick PySem.W.minD))) (lCons (toV (fN (aCons (fSlot 3) (aNil)) (dPick PySem.W.maxD))) (lNil)))) (gSubD 1 (fName 2))))) (sRetX 1))
def F_ranges : List D → Option (D × Bool) := mk0 5 b_ranges
theorem sc_ranges : FnScope ["samples", "found", "name", "told", "one"] ["samples"] (defScope s_ranges) := ⟨rfl, rfl, rfl, by decide +kernel, rfl, by decide +kernel, by decide +kernel⟩
theorem fn_ranges {P : Program} {w : World} {K : PySem.W.Frag} {mg : Str → Option Value} {base : Heap} {f : Addr} {fd : FuncData} (M : Mg mg) (F : FunD K "ranges" "ranges" (defArgs s_ranges) (defBody s_ranges) (defScope s_ranges) [] [] f fd)  : FnOk P w K mg base CX0 1 f fd ["samples"] (sp0 K 1 F_ranges) := by
  have hN := sc_ranges.nd
  refine ok_def0 F sc_ranges fun cdv A outer s H E hr => ?_
  have hc : (cxOf CX0 P w K mg base ["samples", "found", "name", "told", "one"] "ranges" (defScope s_ranges) f cdv A outer s H E).nox.calm = true := rfl
  exact (fs_cons (fs_set (i := 1) hN fe_dnew) (fs_cons (fs_for PassesOwn.never hc (fi_val (fv_e (fe_callB on_sort (cr_sortG hc hr.u64) M.sorted (fa_cons (fo_e (fe_ix o2_ixA (ix_A hr.u1) (fo_name (pv 0)) (fo_v fv_int) (fun _ _ => rfl))) fa_nil)))) (fg_name hN) (fs_cons (fs_setLc (i := 3) (own := [("one", 4)]) hc hN (fi_val (fv_name (pv 0))) (blkOf (by kernel_rfl)) (by decide) (fun _ _ _ _ _ => (fg_name hN)) (fun _ _ _ _ _ => ft_none) (fun _ _ _ _ _ => (fv_e (fe_ix o2_ixA (ix_A hr.u1) (fo_name (pv 4)) (fo_name (pv 2)) (fun _ _ => rfl))))) (fs_one (fs_asg (fv_tup (fl_cons (fv_e (fe_callB (on_pick hr.u64 PySem.W.minD) (cr_minD hc) M.min (fa_cons (fo_name (pv 3)) fa_nil))) (fl_cons (fv_e (fe_callB (on_pick hr.u64 PySem.W.maxD) (cr_maxD hc) M.max (fa_cons (fo_name (pv 3)) fa_nil))) fl_nil))) (fg_sub hr.u1 (pv 1) (fv_name (pv 2))))))) (fs_one (fs_retX (pv 1)))))
theorem ok_ranges {P : Program} {w : World} {K : PySem.W.Frag} {mg : Str → Option Value} {base : Heap} {f : Addr} {fd : FuncData} (M : Mg mg) (F : FunD K "ranges" "ranges" (defArgs s_ranges) (defBody s_ranges) (defScope s_ranges) [] [] f fd)  (hm : mg "ranges" = some (.ref f)) : Ow P w K mg base 1 "ranges" ["samples"] (sp0 K 1 F_ranges) :=
  ⟨f, fd, hm, F.kp, F.bindsN fun _ _ _ _ _ _ us hl => match us, hl with | [_], _ => rfl, fn_ranges M F ⟩
def b_never_zero : Sv := sRet (fN (aCons (toO (fLc [1] (itV (toV (fN (aCons (toO (f2 (fSlot 0) (svO (fC (.int 0))) dIxA)) (aNil)) dSort))) (gN 1) (tB1 (fN (aCons (toO (fLc [2] (itV (fName 0)) (gN 2) (tTrue) (toV (f2 (toO (f2 (fSlot 2) (fSlot 1) dIxA)) (svO (fC (.int 0))) (dNe))))) (aNil)) dAll)) (fName 1))) (aNil)) dTuple)
def F_never_zero : List D → Option (D × Bool) := mk0 3 b_never_zero
theorem sc_never_zero : FnScope ["samples", "name", "one"] ["samples"] (defScope s_never_zero) := ⟨rfl, rfl, rfl, by decide +kernel, rfl, by decide +kernel, by decide +kernel⟩
theorem fn_never_zero {P : Program} {w : World} {K : PySem.W.Frag} {mg : Str → Option Value} {base : Heap} {f : Addr} {fd : FuncData} (M : Mg mg) (F : FunD K "never_zero" "never_zero" (defArgs s_never_zero) (defBody s_never_zero) (defScope s_never_zero) [] [] f fd)  : FnOk P w K mg base CX0 1 f fd ["samples"] (sp0 K 1 F_never_zero) := by
  have hN := sc_never_zero.nd
  refine ok_def0 F sc_never_zero fun cdv A outer s H E hr => ?_
  have hc : (cxOf CX0 P w K mg base ["samples", "name", "one"] "never_zero" (defScope s_never_zero) f cdv A outer s H E).nox.calm = true := rfl
  exact (fs_one (fs_ret (fe_callTy on_tuple cr_tupOf M.tuple (fa_cons (fo_e (fe_lc (own := [("name", 1)]) hc hN (fi_val (fv_e (fe_callB on_sort (cr_sortG hc hr.u64) M.sorted (fa_cons (fo_e (fe_ix o2_ixA (ix_A hr.u1) (fo_name (pv 0)) (fo_v fv_int) (fun _ _ => rfl))) fa_nil)))) (blkOf (by kernel_rfl)) (by decide) (fun _ _ _ _ _ => (fg_name hN)) (fun _ _ _ _ _ => (ft_one (ft_val (fe_callB on_all (cr_all hc) M.all (fa_cons (fo_e (fe_lc (own := [("one", 2)]) hc hN (fi_val (fv_name (pv 0))) (blkOf (by kernel_rfl)) (by decide) (fun _ _ _ _ _ => (fg_name hN)) (fun _ _ _ _ _ => ft_none) (fun _ _ _ _ _ => (fv_e (fe_cmp o2_ne (op_neD hr.u64) (fo_e (fe_ix o2_ixA (ix_A hr.u1) (fo_name (pv 2)) (fo_name (pv 1)) (fun _ _ => rfl))) (fo_v fv_int) (nomark _)))))) fa_nil))))) (fun _ _ _ _ _ => (fv_name (pv 1))))) fa_nil))))
theorem ok_never_zero {P : Program} {w : World} {K : PySem.W.Frag} {mg : Str → Option Value} {base : Heap} {f : Addr} {fd : FuncData} (M : Mg mg) (F : FunD K "never_zero" "never_zero" (defArgs s_never_zero) (defBody s_never_zero) (defScope s_never_zero) [] [] f fd)  (hm : mg "never_zero" = some (.ref f)) : Ow P w K mg base 1 "never_zero" ["samples"] (sp0 K 1 F_never_zero) :=
  ⟨f, fd, hm, F.kp, F.bindsN fun _ _ _ _ _ _ us hl => match us, hl with | [_], _ => rfl, fn_never_zero M F ⟩
def b_orders : Sv := sSeq (sSet 1 (fLst (lNil))) (sSeq (sSet 2 (fN (aCons (toO (f2 (fSlot 0) (svO (fC (.int 0))) dIxA)) (aNil)) dSort)) (sSeq (sFor (itV (fName 2)) (gN 3) (sFor (itV (fName 2)) (gN 4) (sIf (tB1 (f2 (fSlot 3) (fSlot 4) (dNe))) (sSeq (sSet 5 (fLc [6] (itV (fName 0)) (gN 6) (tTrue) (toV (f2 (toO (f2 (fSlot 6) (fSlot 4) dIxA)) (toO (f2 (fSlot 6) (fSlot 3) dIxA)) (isI iSub))))) (sIf (tB1 (fN (aCons (toO (fLc [7] (itV (fName 5)) (gN 7) (tTrue) (toV (f2 (fSlot 7) (svO (fC (.int 0))) (isI iGt))))) (aNil)) dAll)) (sExpr (fMut 1 isLst (lCons (fTup (lCons (fName 3) (lCons (fC (.str "less")) (lCons (fName 4) (lNil))))) (lNil)) mAppend)) (sIf (tB1 (fN (aCons (toO (fLc [7] (itV (fName 5)) (gN 7) (tTrue) (toV (f2 (fSlot 7) (svO (fC (.int 0))) (dEq))))) (aNil)) dAll)) (sExpr (fMut 1 isLst (lCons (toV (fIf (tB1 (f2 (fSlot 3) (fSlot 4) (dLtS))) (fLst (lCons (fTup (lCons (fName 3) (lCons (fC (.str "same")) (lCons (fName 4) (lNil))))) (lNil))) (fLst (lNil)))) (lNil)) mExtG)) (sIf (tB1 (fN (aCons (toO (fLc [7] (itV (fName 5)) (gN 7) (tTrue) (toV (f2 (fSlot 7) (svO (fC (.int 0))) (isI iGe))))) (aNil)) dAll)) (sExpr (fMut 1 isLst (lCons (fTup (lCons (fName 3) (lCons (fC (.str "most")) (lCons (fName 4) (lNil))))) (lNil)) mAppend)) (sNx))))) (sNx)))) (sRet (fN (aCons (toO (fN (aCons (fSlot 1) (aNil)) dSort)) (aNil)) dTuple))))
def F_orders : List D → Option (D × Bool) := mk0 8 b_orders
theorem sc_orders : FnScope ["samples", "found", "names", "a", "b", "gaps", "one", "gap"] ["samples"] (defScope s_orders) := ⟨rfl, rfl, rfl, by decide +kernel, rfl, by decide +kernel, by decide +kernel⟩
theorem fn_orders {P : Program} {w : World} {K : PySem.W.Frag} {mg : Str → Option Value} {base : Heap} {f : Addr} {fd : FuncData} (M : Mg mg) (F : FunD K "orders" "orders" (defArgs s_orders) (defBody s_orders) (defScope s_orders) [] [] f fd)  : FnOk P w K mg base CX0 1 f fd ["samples"] (sp0 K 1 F_orders) := by
  have hN := sc_orders.nd
  refine ok_def0 F sc_orders fun cdv A outer s H E hr => ?_
  have hc : (cxOf CX0 P w K mg base ["samples", "found", "names", "a", "b", "gaps", "one", "gap"] "orders" (defScope s_orders) f cdv A outer s H E).nox.calm = true := rfl
  exact (fs_cons (fs_set (i := 1) hN (fe_lst fl_nil)) (fs_cons (fs_set (i := 2) hN (fe_callB on_sort (cr_sortG hc hr.u64) M.sorted (fa_cons (fo_e (fe_ix o2_ixA (ix_A hr.u1) (fo_name (pv 0)) (fo_v fv_int) (fun _ _ => rfl))) fa_nil))) (fs_cons (fs_for PassesOwn.never hc (fi_val (fv_name (pv 2))) (fg_name hN) (fs_one (fs_for PassesOwn.never hc (fi_val (fv_name (pv 2))) (fg_name hN) (fs_one (fs_if (ft_cmp o2_ne (op_neD hr.u64) (fo_name (pv 3)) (fo_name (pv 4)) (nomark _)) (fs_cons (fs_setLc (i := 5) (own := [("one", 6)]) hc hN (fi_val (fv_name (pv 0))) (blkOf (by kernel_rfl)) (by decide) (fun _ _ _ _ _ => (fg_name hN)) (fun _ _ _ _ _ => ft_none) (fun _ _ _ _ _ => (fv_e (fe_op o2_sub op_sub (fo_e (fe_ix o2_ixA (ix_A hr.u1) (fo_name (pv 6)) (fo_name (pv 4)) (fun _ _ => rfl))) (fo_e (fe_ix o2_ixA (ix_A hr.u1) (fo_name (pv 6)) (fo_name (pv 3)) (fun _ _ => rfl))))))) (fs_one (fs_if (ft_val (fe_callB on_all (cr_all hc) M.all (fa_cons (fo_e (fe_lc (own := [("gap", 7)]) hc hN (fi_val (fv_name (pv 5))) (blkOf (by kernel_rfl)) (by decide) (fun _ _ _ _ _ => (fg_name hN)) (fun _ _ _ _ _ => ft_none) (fun _ _ _ _ _ => (fv_e (fe_cmp o2_gtI op_gt (fo_name (pv 7)) (fo_v fv_int) (nomark _)))))) fa_nil))) (fs_one (fs_expr (fe_mut (kindL _) om_append PySem.F.plainAttrs_list PySem.F.slot_list_append PySem.type_list_append mt_append (pv 1) (fl_cons (fv_tup (fl_cons (fv_name (pv 3)) (fl_cons fv_str (fl_cons (fv_name (pv 4)) fl_nil)))) fl_nil)))) (fs_one (fs_if (ft_val (fe_callB on_all (cr_all hc) M.all (fa_cons (fo_e (fe_lc (own := [("gap", 7)]) hc hN (fi_val (fv_name (pv 5))) (blkOf (by kernel_rfl)) (by decide) (fun _ _ _ _ _ => (fg_name hN)) (fun _ _ _ _ _ => ft_none) (fun _ _ _ _ _ => (fv_e (fe_cmp o2_eq (op_eqD hr.u64) (fo_name (pv 7)) (fo_v fv_int) (nomark _)))))) fa_nil))) (fs_one (fs_expr (fe_mut (kindL _) om_ext PySem.F.plainAttrs_list PySem.F.slot_list_extend PySem.F.type_list_extend mt_ext (pv 1) (fl_cons (fv_e (fe_if (ft_cmp o2_ltS op_lt_str (fo_name (pv 3)) (fo_name (pv 4)) (nomark _)) (fe_lst (fl_cons (fv_tup (fl_cons (fv_name (pv 3)) (fl_cons fv_str (fl_cons (fv_name (pv 4)) fl_nil)))) fl_nil)) (fe_lst fl_nil))) fl_nil)))) (fs_one (fs_if (ft_val (fe_callB on_all (cr_all hc) M.all (fa_cons (fo_e (fe_lc (own := [("gap", 7)]) hc hN (fi_val (fv_name (pv 5))) (blkOf (by kernel_rfl)) (by decide) (fun _ _ _ _ _ => (fg_name hN)) (fun _ _ _ _ _ => ft_none) (fun _ _ _ _ _ => (fv_e (fe_cmp o2_geI op_ge (fo_name (pv 7)) (fo_v fv_int) (nomark _)))))) fa_nil))) (fs_one (fs_expr (fe_mut (kindL _) om_append PySem.F.plainAttrs_list PySem.F.slot_list_append PySem.type_list_append mt_append (pv 1) (fl_cons (fv_tup (fl_cons (fv_name (pv 3)) (fl_cons fv_str (fl_cons (fv_name (pv 4)) fl_nil)))) fl_nil)))) fs_nil))))))) fs_nil))))) (fs_one (fs_ret (fe_callTy on_tuple cr_tupOf M.tuple (fa_cons (fo_e (fe_callB on_sort (cr_sortG hc hr.u64) M.sorted (fa_cons (fo_name (pv 1)) fa_nil))) fa_nil)))))))
theorem ok_orders {P : Program} {w : World} {K : PySem.W.Frag} {mg : Str → Option Value} {base : Heap} {f : Addr} {fd : FuncData} (M : Mg mg) (F : FunD K "orders" "orders" (defArgs s_orders) (defBody s_orders) (defScope s_orders) [] [] f fd)  (hm : mg "orders" = some (.ref f)) : Ow P w K mg base 1 "orders" ["samples"] (sp0 K 1 F_orders) :=
  ⟨f, fd, hm, F.kp, F.bindsN fun _ _ _ _ _ _ us hl => match us, hl with | [_], _ => rfl, fn_orders M F ⟩
def b_rests : Sv := sSeq (sSet 1 (fun en => some (.dict [], true, en))) (sSeq (sFor (itV (toV (fN (aCons (toO (f2 (fSlot 0) (svO (fC (.int 0))) dIxA)) (aNil)) dSort))) (gN 2) (sSeq (sSet 3 (ofV (fC (.int 0)))) (sSeq (sFor (itV (fName 0)) (gN 4) (sSet 3 (fCall 2 (lCons (fName 3) (lCons (toV (f2 (toO (f2 (fSlot 4) (fSlot 2) dIxA)) (toO (f2 (toO (f2 (fSlot 0) (svO (fC (.int 0))) dIxA)) (fSlot 2) dIxA)) (isI iSub))) (lNil))) F_common))) (sIf (tB1 (f2 (fSlot 3) (svO (fC (.int 1))) (isI iGt))) (sAsg (fTup (lCons (fName 3) (lCons (toV (f2 (toO (f2 (toO (f2 (fSlot 0) (svO (fC (.int 0))) dIxA)) (fSlot 2) dIxA)) (fSlot 3) (isI iMod))) (lNil)))) (gSubD 1 (fName 2))) (sNx))))) (sRetX 1))
def F_rests : List D → Option (D × Bool) := mk0 5 b_rests
theorem sc_rests : FnScope ["samples", "found", "name", "by", "one"] ["samples"] (defScope s_rests) := ⟨rfl, rfl, rfl, by decide +kernel, rfl, by decide +kernel, by decide +kernel⟩
theorem fn_rests {P : Program} {w : World} {K : PySem.W.Frag} {mg : Str → Option Value} {base : Heap} {f : Addr} {fd : FuncData} (M : Mg mg) (F : FunD K "rests" "rests" (defArgs s_rests) (defBody s_rests) (defScope s_rests) [] [] f fd) (c_common : Ow P w K mg base 1 "common" ["a", "b"] (sp0 K 2 F_common)) : FnOk P w K mg base CX0 2 f fd ["samples"] (sp0 K 1 F_rests) := by
  have hN := sc_rests.nd
  refine ok_def0 F sc_rests fun cdv A outer s H E hr => ?_
  have hc : (cxOf CX0 P w K mg base ["samples", "found", "name", "by", "one"] "rests" (defScope s_rests) f cdv A outer s H E).nox.calm = true := rfl
  exact (fs_cons (fs_set (i := 1) hN fe_dnew) (fs_cons (fs_for PassesOwn.never hc (fi_val (fv_e (fe_callB on_sort (cr_sortG hc hr.u64) M.sorted (fa_cons (fo_e (fe_ix o2_ixA (ix_A hr.u1) (fo_name (pv 0)) (fo_v fv_int) (fun _ _ => rfl))) fa_nil)))) (fg_name hN) (fs_cons (fs_set (i := 3) hN (fe_v fv_int)) (fs_cons (fs_for PassesOwn.never hc (fi_val (fv_name (pv 0))) (fg_name hN) (fs_one (fs_set (i := 3) hN (fe_callO c_common hr (fl_cons (fv_name (pv 3)) (fl_cons (fv_e (fe_op o2_sub op_sub (fo_e (fe_ix o2_ixA (ix_A hr.u1) (fo_name (pv 4)) (fo_name (pv 2)) (fun _ _ => rfl))) (fo_e (fe_ix o2_ixA (ix_A hr.u1) (fo_e (fe_ix o2_ixA (ix_A hr.u1) (fo_name (pv 0)) (fo_v fv_int) (fun _ _ => rfl))) (fo_name (pv 2)) (fun _ _ => rfl))))) fl_nil)) (by first | decide | omega | (simp only [Nat.add_eq]; omega)))))) (fs_one (fs_if (ft_cmp o2_gtI op_gt (fo_name (pv 3)) (fo_v fv_int) (nomark _)) (fs_one (fs_asg (fv_tup (fl_cons (fv_name (pv 3)) (fl_cons (fv_e (fe_op o2_mod op_mod (fo_e (fe_ix o2_ixA (ix_A hr.u1) (fo_e (fe_ix o2_ixA (ix_A hr.u1) (fo_name (pv 0)) (fo_v fv_int) (fun _ _ => rfl))) (fo_name (pv 2)) (fun _ _ => rfl))) (fo_name (pv 3)))) fl_nil))) (fg_sub hr.u1 (pv 1) (fv_name (pv 2))))) fs_nil))))) (fs_one (fs_retX (pv 1)))))
theorem ok_rests {P : Program} {w : World} {K : PySem.W.Frag} {mg : Str → Option Value} {base : Heap} {f : Addr} {fd : FuncData} (M : Mg mg) (F : FunD K "rests" "rests" (defArgs s_rests) (defBody s_rests) (defScope s_rests) [] [] f fd) (c_common : Ow P w K mg base 1 "common" ["a", "b"] (sp0 K 2 F_common)) (hm : mg "rests" = some (.ref f)) : Ow P w K mg base 2 "rests" ["samples"] (sp0 K 1 F_rests) :=
  ⟨f, fd, hm, F.kp, F.bindsN fun _ _ _ _ _ _ us hl => match us, hl with | [_], _ => rfl, fn_rests M F c_common⟩
def b_few_values : Sv := sSeq (sSet 2 (fun en => some (.dict [], true, en))) (sSeq (sFor (itV (toV (fN (aCons (toO (f2 (fSlot 0) (svO (fC (.int 0))) dIxA)) (aNil)) dSort))) (gN 3) (sSeq (sSet 4 (fN (aCons (toO (fN (aCons (toO (fLc [5] (itV (fName 0)) (gN 5) (tTrue) (toV (f2 (fSlot 5) (fSlot 3) dIxA)))) (aNil)) dSortSetK)) (aNil)) dTuple)) (sIf (tB1 (f2 (toO (fN (aCons (fSlot 4) (aNil)) dLen)) (fSlot 1) (isI iLe))) (sAsg (fName 4) (gSubD 2 (fName 3))) (sNx)))) (sRetX 2))
def F_few_values : List D → Option (D × Bool) := mk0 6 b_few_values
theorem sc_few_values : FnScope ["samples", "most", "found", "name", "told", "one"] ["samples", "most"] (defScope s_few_values) := ⟨rfl, rfl, rfl, by decide +kernel, rfl, by decide +kernel, by decide +kernel⟩
theorem fn_few_values {P : Program} {w : World} {K : PySem.W.Frag} {mg : Str → Option Value} {base : Heap} {f : Addr} {fd : FuncData} (M : Mg mg) (F : FunD K "few_values" "few_values" (defArgs s_few_values) (defBody s_few_values) (defScope s_few_values) [] [] f fd)  : FnOk P w K mg base CX0 1 f fd ["samples", "most"] (sp0 K 2 F_few_values) := by
  have hN := sc_few_values.nd
  refine ok_def0 F sc_few_values fun cdv A outer s H E hr => ?_
  have hc : (cxOf CX0 P w K mg base ["samples", "most", "found", "name", "told", "one"] "few_values" (defScope s_few_values) f cdv A outer s H E).nox.calm = true := rfl
  exact (fs_cons (fs_set (i := 2) hN fe_dnew) (fs_cons (fs_for PassesOwn.never hc (fi_val (fv_e (fe_callB on_sort (cr_sortG hc hr.u64) M.sorted (fa_cons (fo_e (fe_ix o2_ixA (ix_A hr.u1) (fo_name (pv 0)) (fo_v fv_int) (fun _ _ => rfl))) fa_nil)))) (fg_name hN) (fs_cons (fs_set (i := 4) hN (fe_callTy on_tuple cr_tupOf M.tuple (fa_cons (fo_e (fe_sortSetK hc hr.u64 M.sorted M.set (fa_cons (fo_e (fe_lc (own := [("one", 5)]) hc hN (fi_val (fv_name (pv 0))) (blkOf (by kernel_rfl)) (by decide) (fun _ _ _ _ _ => (fg_name hN)) (fun _ _ _ _ _ => ft_none) (fun _ _ _ _ _ => (fv_e (fe_ix o2_ixA (ix_A hr.u1) (fo_name (pv 5)) (fo_name (pv 3)) (fun _ _ => rfl)))))) fa_nil))) fa_nil))) (fs_one (fs_if (ft_cmp o2_leI op_le (fo_e (fe_callB on_len cr_lenA M.len (fa_cons (fo_name (pv 4)) fa_nil))) (fo_name (pv 1)) (nomark _)) (fs_one (fs_asg (fv_name (pv 4)) (fg_sub hr.u1 (pv 2) (fv_name (pv 3))))) fs_nil)))) (fs_one (fs_retX (pv 2)))))
theorem ok_few_values {P : Program} {w : World} {K : PySem.W.Frag} {mg : Str → Option Value} {base : Heap} {f : Addr} {fd : FuncData} (M : Mg mg) (F : FunD K "few_values" "few_values" (defArgs s_few_values) (defBody s_few_values) (defScope s_few_values) [] [] f fd)  (hm : mg "few_values" = some (.ref f)) : Ow P w K mg base 1 "few_values" ["samples", "most"] (sp0 K 2 F_few_values) :=
  ⟨f, fd, hm, F.kp, F.bindsN fun _ _ _ _ _ _ us hl => match us, hl with | [_, _], _ => rfl, fn_few_values M F ⟩
def b__law_draws : Sv := sSeq (sSet 2 (fLst (lNil))) (sSeq (sSet 3 (ofV (fC (.int 7)))) (sSeq (sFor (itR (aCons (toO (fN (aCons (fSlot 0) (aNil)) dLen)) (aNil)) range1D) (gN 4) (sSeq (sSet 5 (fN (aCons (toO (fN (aCons (toO (f2 (fSlot 0) (fSlot 4) dIxA)) (aNil)) dInt)) (aNil)) dAbs)) (sSeq (sSet 3 (f2 (toO (fN (aCons (toO (f2 (toO (f2 (toO (f2 (fSlot 3) (svO (fC (.int 48271))) (isI iMul))) (toO (f2 (fSlot 5) (svO (fC (.int 1000003))) (isI iMod))) (dAdd))) (fSlot 4) (dAdd))) (aNil)) dInt)) (svO (fC (.int 65537))) (isI iMod))) (sSeq (sSet 6 (ofV (fC (.int 0)))) (sSeq (sIf (tB1 (f2 (fSlot 5) (toO (f2 (svO (fC (.int 10))) (svO (fC (.int 18))) (isI iPow))) (isI iGe))) (sSet 6 (ofV (fName 5))) (sSeq (sExpr (fMut 2 isLst (lCons (toV (f2 (toO (fN (aCons (fSlot 5) (aNil)) dInt)) (svO (fC (.int 997))) (isI iMod))) (lNil)) mAppend)) (sExpr (fMut 2 isLst (lCons (toV (f2 (toO (f2 (toO (fN (aCons (toO (f2 (toO (f2 (fSlot 3) (svO (fC (.int 69621))) (isI iMul))) (svO (fC (.int 5))) (dAdd))) (aNil)) dInt)) (svO (fC (.int 65521))) (isI iMod))) (svO (fC (.int 997))) (isI iMod))) (lNil)) mAppend)))) (sFor (itR (aCons (svO (fC (.int 60))) (aNil)) range1D) (gN 7) (sIf (tB1 (f2 (fSlot 6) (svO (fC (.int 0))) (isI iGt))) (sSeq (sExpr (fMut 2 isLst (lCons (toV (f2 (toO (fN (aCons (fSlot 6) (aNil)) dInt)) (svO (fC (.int 997))) (isI iMod))) (lNil)) mAppend)) (sSet 6 (f2 (fSlot 6) (svO (fC (.int 997))) (isI iDiv)))) (sNx)))))))) (sSeq (sFor (itR (aCons (fSlot 1) (aNil)) range1D) (gN 4) (sSeq (sSet 3 (f2 (toO (fN (aCons (toO (f2 (toO (f2 (toO (f2 (fSlot 3) (svO (fC (.int 16807))) (isI iMul))) (fSlot 4) (dAdd))) (svO (fC (.int 1))) (dAdd))) (aNil)) dInt)) (svO (fC (.int 65537))) (isI iMod))) (sExpr (fMut 2 isLst (lCons (toV (f2 (toO (fN (aCons (fSlot 3) (aNil)) dInt)) (svO (fC (.int 997))) (isI iMod))) (lNil)) mAppend)))) (sRet (fSl (fSlot 2) (pNone) (pInt (fSlot 1)) dSl)))))
def F__law_draws : List D → Option (D × Bool) := mk0 8 b__law_draws
theorem sc__law_draws : FnScope ["script", "many", "draws", "mixed", "k", "cell", "rest", "turn"] ["script", "many"] (defScope s__law_draws) := ⟨rfl, rfl, rfl, by decide +kernel, rfl, by decide +kernel, by decide +kernel⟩
theorem fn__law_draws {P : Program} {w : World} {K : PySem.W.Frag} {mg : Str → Option Value} {base : Heap} {f : Addr} {fd : FuncData} (M : Mg mg) (F : FunD K "_law_draws" "_law_draws" (defArgs s__law_draws) (defBody s__law_draws) (defScope s__law_draws) [] [] f fd)  : FnOk P w K mg base CX0 1 f fd ["script", "many"] (sp0 K 2 F__law_draws) := by
  have hN := sc__law_draws.nd
  refine ok_def0 F sc__law_draws fun cdv A outer s H E hr => ?_
  have hc : (cxOf CX0 P w K mg base ["script", "many", "draws", "mixed", "k", "cell", "rest", "turn"] "_law_draws" (defScope s__law_draws) f cdv A outer s H E).nox.calm = true := rfl
  exact (fs_cons (fs_set (i := 2) hN (fe_lst fl_nil)) (fs_cons (fs_set (i := 3) hN (fe_v fv_int)) (fs_cons (fs_for PassesOwn.never hc (fi_range1 M.range (fa_cons (fo_e (fe_callB on_len cr_lenA M.len (fa_cons (fo_name (pv 0)) fa_nil))) fa_nil)) (fg_name hN) (fs_cons (fs_set (i := 5) hN (fe_callB on_abs call_abs M.abs (fa_cons (fo_e (fe_callTy on_int call_int1 M.int (fa_cons (fo_e (fe_ix o2_ixA (ix_A hr.u1) (fo_name (pv 0)) (fo_name (pv 4)) (fun _ _ => rfl))) fa_nil))) fa_nil))) (fs_cons (fs_set (i := 3) hN (fe_op o2_mod op_mod (fo_e (fe_callTy on_int call_int1 M.int (fa_cons (fo_e (fe_op o2_add op_addD (fo_e (fe_op o2_add op_addD (fo_e (fe_op o2_mulI op_mul (fo_name (pv 3)) (fo_v fv_int))) (fo_e (fe_op o2_mod op_mod (fo_name (pv 5)) (fo_v fv_int))))) (fo_name (pv 4)))) fa_nil))) (fo_v fv_int))) (fs_cons (fs_set (i := 6) hN (fe_v fv_int)) (fs_cons (fs_if (ft_cmp o2_geI op_ge (fo_name (pv 5)) (fo_e (fe_op o2_pow op_pow (fo_v fv_int) (fo_v fv_int))) (nomark _)) (fs_one (fs_set (i := 6) hN (fe_v (fv_name (pv 5))))) (fs_cons (fs_expr (fe_mut (kindL _) om_append PySem.F.plainAttrs_list PySem.F.slot_list_append PySem.type_list_append mt_append (pv 2) (fl_cons (fv_e (fe_op o2_mod op_mod (fo_e (fe_callTy on_int call_int1 M.int (fa_cons (fo_name (pv 5)) fa_nil))) (fo_v fv_int))) fl_nil))) (fs_one (fs_expr (fe_mut (kindL _) om_append PySem.F.plainAttrs_list PySem.F.slot_list_append PySem.type_list_append mt_append (pv 2) (fl_cons (fv_e (fe_op o2_mod op_mod (fo_e (fe_op o2_mod op_mod (fo_e (fe_callTy on_int call_int1 M.int (fa_cons (fo_e (fe_op o2_add op_addD (fo_e (fe_op o2_mulI op_mul (fo_name (pv 3)) (fo_v fv_int))) (fo_v fv_int))) fa_nil))) (fo_v fv_int))) (fo_v fv_int))) fl_nil)))))) (fs_one (fs_for PassesOwn.never hc (fi_range1 M.range (fa_cons (fo_v fv_int) fa_nil)) (fg_name hN) (fs_one (fs_if (ft_cmp o2_gtI op_gt (fo_name (pv 6)) (fo_v fv_int) (nomark _)) (fs_cons (fs_expr (fe_mut (kindL _) om_append PySem.F.plainAttrs_list PySem.F.slot_list_append PySem.type_list_append mt_append (pv 2) (fl_cons (fv_e (fe_op o2_mod op_mod (fo_e (fe_callTy on_int call_int1 M.int (fa_cons (fo_name (pv 6)) fa_nil))) (fo_v fv_int))) fl_nil))) (fs_one (fs_set (i := 6) hN (fe_op o2_div op_fdiv (fo_name (pv 6)) (fo_v fv_int))))) fs_nil))))))))) (fs_cons (fs_for PassesOwn.never hc (fi_range1 M.range (fa_cons (fo_name (pv 1)) fa_nil)) (fg_name hN) (fs_cons (fs_set (i := 3) hN (fe_op o2_mod op_mod (fo_e (fe_callTy on_int call_int1 M.int (fa_cons (fo_e (fe_op o2_add op_addD (fo_e (fe_op o2_add op_addD (fo_e (fe_op o2_mulI op_mul (fo_name (pv 3)) (fo_v fv_int))) (fo_name (pv 4)))) (fo_v fv_int))) fa_nil))) (fo_v fv_int))) (fs_one (fs_expr (fe_mut (kindL _) om_append PySem.F.plainAttrs_list PySem.F.slot_list_append PySem.type_list_append mt_append (pv 2) (fl_cons (fv_e (fe_op o2_mod op_mod (fo_e (fe_callTy on_int call_int1 M.int (fa_cons (fo_name (pv 3)) fa_nil))) (fo_v fv_int))) fl_nil)))))) (fs_one (fs_ret (fe_slice os_sl sl_D (fo_name (pv 2)) fp_none (fp_some (fo_name (pv 1))))))))))
theorem ok__law_draws {P : Program} {w : World} {K : PySem.W.Frag} {mg : Str → Option Value} {base : Heap} {f : Addr} {fd : FuncData} (M : Mg mg) (F : FunD K "_law_draws" "_law_draws" (defArgs s__law_draws) (defBody s__law_draws) (defScope s__law_draws) [] [] f fd)  (hm : mg "_law_draws" = some (.ref f)) : Ow P w K mg base 1 "_law_draws" ["script", "many"] (sp0 K 2 F__law_draws) :=
  ⟨f, fd, hm, F.kp, F.bindsN fun _ _ _ _ _ _ us hl => match us, hl with | [_, _], _ => rfl, fn__law_draws M F ⟩
def b__law_next : Sv := sSeq (sAugS 0 (fC (.str "at")) (fC (.int 1)) zAdd) (sSeq (sIf (tB1 (f2 (toO (f2 (fSlot 0) (svO (fC (.str "at"))) dIxA)) (toO (fN (aCons (toO (f2 (fSlot 0) (svO (fC (.str "draws"))) dIxA)) (aNil)) dLen)) (isI iGt))) (sRet (ofV (fC (.int 0)))) (sNx)) (sRet (f2 (toO (fN (aCons (toO (f2 (toO (f2 (fSlot 0) (svO (fC (.str "draws"))) dIxA)) (toO (f2 (toO (f2 (fSlot 0) (svO (fC (.str "at"))) dIxA)) (svO (fC (.int 1))) (isI iSub))) dIxA)) (aNil)) dInt)) (fSlot 1) (isI iMod))))
def F__law_next : D → List D → Option (D × Bool × D) := mkW 2 b__law_next
theorem sc__law_next : FnScope ["w", "many"] ["w", "many"] (defScope s__law_next) := ⟨rfl, rfl, rfl, by decide +kernel, rfl, by decide +kernel, by decide +kernel⟩
theorem fn__law_next {P : Program} {w : World} {K : PySem.W.Frag} {mg : Str → Option Value} {base : Heap} {f : Addr} {fd : FuncData} (M : Mg mg) (F : FunD K "_law_next" "_law_next" (defArgs s__law_next) (defBody s__law_next) (defScope s__law_next) [] [] f fd)  : FnOk P w K mg base CX0 1 f fd ["w", "many"] (spW K 1 F__law_next) := by
  have hN := sc__law_next.nd
  refine ok_defW (np := 1) F sc__law_next rfl (by decide) fun cdv A outer s H E hr => ?_
  have hc : (cxOf CX0 P w K mg base ["w", "many"] "_law_next" (defScope s__law_next) f cdv A outer s H E).nox.calm = true := rfl
  exact (fs_cons (fs_augS hr.u1 (pv 0) fv_str fv_int ip_add i2_add) (fs_cons (fs_if (ft_cmp o2_gtI op_gt (fo_e (fe_ix o2_ixA (ix_A hr.u1) (fo_name (pv 0)) (fo_v fv_str) (fun _ _ => rfl))) (fo_e (fe_callB on_len cr_lenA M.len (fa_cons (fo_e (fe_ix o2_ixA (ix_A hr.u1) (fo_name (pv 0)) (fo_v fv_str) (fun _ _ => rfl))) fa_nil))) (nomark _)) (fs_one (fs_ret (fe_v fv_int))) fs_nil) (fs_one (fs_ret (fe_op o2_mod op_mod (fo_e (fe_callTy on_int call_int1 M.int (fa_cons (fo_e (fe_ix o2_ixA (ix_A hr.u1) (fo_e (fe_ix o2_ixA (ix_A hr.u1) (fo_name (pv 0)) (fo_v fv_str) (fun _ _ => rfl))) (fo_e (fe_op o2_sub op_sub (fo_e (fe_ix o2_ixA (ix_A hr.u1) (fo_name (pv 0)) (fo_v fv_str) (fun _ _ => rfl))) (fo_v fv_int))) (fun _ _ => rfl))) fa_nil))) (fo_name (pv 1)))))))
theorem ok__law_next {P : Program} {w : World} {K : PySem.W.Frag} {mg : Str → Option Value} {base : Heap} {f : Addr} {fd : FuncData} (M : Mg mg) (F : FunD K "_law_next" "_law_next" (defArgs s__law_next) (defBody s__law_next) (defScope s__law_next) [] [] f fd)  (hm : mg "_law_next" = some (.ref f)) : Ow P w K mg base 1 "_law_next" ["w", "many"] (spW K 1 F__law_next) :=
  ⟨f, fd, hm, F.kp, F.bindsN fun _ _ _ _ _ _ us hl => match us, hl with | [_, _], _ => rfl, fn__law_next M F ⟩
def b__law_pick : Sv := sRet (f2 (fSlot 1) (toO (fCallW 1 0 (lCons (toV (fN (aCons (fSlot 1) (aNil)) dLen)) (lNil)) F__law_next)) dIxA)
def F__law_pick : D → List D → Option (D × Bool × D) := mkW 2 b__law_pick
theorem sc__law_pick : FnScope ["w", "rows"] ["w", "rows"] (defScope s__law_pick) := ⟨rfl, rfl, rfl, by decide +kernel, rfl, by decide +kernel, by decide +kernel⟩
theorem fn__law_pick {P : Program} {w : World} {K : PySem.W.Frag} {mg : Str → Option Value} {base : Heap} {f : Addr} {fd : FuncData} (M : Mg mg) (F : FunD K "_law_pick" "_law_pick" (defArgs s__law_pick) (defBody s__law_pick) (defScope s__law_pick) [] [] f fd) (c__law_next : Ow P w K mg base 1 "_law_next" ["w", "many"] (spW K 1 F__law_next)) : FnOk P w K mg base CX0 2 f fd ["w", "rows"] (spW K 1 F__law_pick) := by
  have hN := sc__law_pick.nd
  refine ok_defW (np := 1) F sc__law_pick rfl (by decide) fun cdv A outer s H E hr => ?_
  have hc : (cxOf CX0 P w K mg base ["w", "rows"] "_law_pick" (defScope s__law_pick) f cdv A outer s H E).nox.calm = true := rfl
  exact (fs_one (fs_ret (fe_ix o2_ixA (ix_A hr.u1) (fo_name (pv 1)) (fo_e (fe_callWO c__law_next hr (pv 0) (fl_cons (fv_e (fe_callB on_len cr_lenA M.len (fa_cons (fo_name (pv 1)) fa_nil))) fl_nil) (by first | decide | omega | (simp only [Nat.add_eq]; omega)))) (fun _ _ => rfl))))
theorem ok__law_pick {P : Program} {w : World} {K : PySem.W.Frag} {mg : Str → Option Value} {base : Heap} {f : Addr} {fd : FuncData} (M : Mg mg) (F : FunD K "_law_pick" "_law_pick" (defArgs s__law_pick) (defBody s__law_pick) (defScope s__law_pick) [] [] f fd) (c__law_next : Ow P w K mg base 1 "_law_next" ["w", "many"] (spW K 1 F__law_next)) (hm : mg "_law_pick" = some (.ref f)) : Ow P w K mg base 2 "_law_pick" ["w", "rows"] (spW K 1 F__law_pick) :=
  ⟨f, fd, hm, F.kp, F.bindsN fun _ _ _ _ _ _ us hl => match us, hl with | [_, _], _ => rfl, fn__law_pick M F c__law_next⟩
def b__law_says : Sv := sRet (fAnd (fIsi (fSlot 0) "bool") (f2 (fSlot 0) (fSlot 1) (dEq)))
def F__law_says : List D → Option (D × Bool) := mk0 2 b__law_says
theorem sc__law_says : FnScope ["seen", "due"] ["seen", "due"] (defScope s__law_says) := ⟨rfl, rfl, rfl, by decide +kernel, rfl, by decide +kernel, by decide +kernel⟩
theorem fn__law_says {P : Program} {w : World} {K : PySem.W.Frag} {mg : Str → Option Value} {base : Heap} {f : Addr} {fd : FuncData} (M : Mg mg) (F : FunD K "_law_says" "_law_says" (defArgs s__law_says) (defBody s__law_says) (defScope s__law_says) [] [] f fd)  : FnOk P w K mg base CX0 1 f fd ["seen", "due"] (sp0 K 2 F__law_says) := by
  have hN := sc__law_says.nd
  refine ok_def0 F sc__law_says fun cdv A outer s H E hr => ?_
  have hc : (cxOf CX0 P w K mg base ["seen", "due"] "_law_says" (defScope s__law_says) f cdv A outer s H E).nox.calm = true := rfl
  exact (fs_one (fs_ret (fe_and (fe_isi (fo_name (pv 0)) M.isinstance M.bool) (fe_one (fe_cmp o2_eq (op_eqD hr.u64) (fo_name (pv 0)) (fo_name (pv 1)) (nomark _))))))
theorem ok__law_says {P : Program} {w : World} {K : PySem.W.Frag} {mg : Str → Option Value} {base : Heap} {f : Addr} {fd : FuncData} (M : Mg mg) (F : FunD K "_law_says" "_law_says" (defArgs s__law_says) (defBody s__law_says) (defScope s__law_says) [] [] f fd)  (hm : mg "_law_says" = some (.ref f)) : Ow P w K mg base 1 "_law_says" ["seen", "due"] (sp0 K 2 F__law_says) :=
  ⟨f, fd, hm, F.kp, F.bindsN fun _ _ _ _ _ _ us hl => match us, hl with | [_, _], _ => rfl, fn__law_says M F ⟩
def b__law_same (Fr : List D → Option (D × Bool)) : Sv := sSeq (sIf (tB1 (fIsi (fSlot 1) "tuple")) (sSeq (sIf (tOrF (tNotF (tB1 (fIsi (fSlot 0) "tuple"))) (tB1 (f2 (toO (fN (aCons (fSlot 0) (aNil)) dLen)) (toO (fN (aCons (fSlot 1) (aNil)) dLen)) (dNe)))) (sRet (ofV (fC (.bool false)))) (sNx)) (sRet (f2 (toO (fLc [2] (itR (aCons (toO (fN (aCons (fSlot 1) (aNil)) dLen)) (aNil)) range1D) (gN 2) (tNotF (tB1 (fCall 2 (lCons (toV (f2 (fSlot 0) (fSlot 2) dIxA)) (lCons (toV (f2 (fSlot 1) (fSlot 2) dIxA)) (lNil))) Fr))) (fName 2))) (toO (fLst (lNil))) (dEq)))) (sNx)) (sSeq (sIf (tB1 (fIs (fSlot 1) isND)) (sRet (fIs (fSlot 0) isND)) (sNx)) (sSeq (sIf (tB1 (fIsi (fSlot 1) "str")) (sRet (fAnd (fIsi (fSlot 0) "str") (f2 (fSlot 0) (fSlot 1) (dEq)))) (sNx)) (sRet (fAnd (fIsi (fSlot 0) "int") (fAnd (f2 (toO (fIsi (fSlot 0) "bool")) (toO (fIsi (fSlot 1) "bool")) (dEq)) (f2 (fSlot 0) (fSlot 1) (dEq)))))))
def F__law_same : Nat → List D → Option (D × Bool)
  | 0 => fun _ => none
  | n + 1 => mk0 3 (b__law_same (F__law_same n))
theorem sc__law_same : FnScope ["seen", "due", "k"] ["seen", "due"] (defScope s__law_same) := ⟨rfl, rfl, rfl, by decide +kernel, rfl, by decide +kernel, by decide +kernel⟩
theorem fr__law_same {P : Program} {w : World} {K : PySem.W.Frag} {mg : Str → Option Value} {base : Heap} {f : Addr} {fd : FuncData} (M : Mg mg) (F : FunD K "_law_same" "_law_same" (defArgs s__law_same) (defBody s__law_same) (defScope s__law_same) [] [] f fd)  (hm : mg "_law_same" = some (.ref f)) : ∀ m : Nat, FnOk P w K mg base CX0 (1 + m) f fd ["seen", "due"] (sp0 K 2 (F__law_same m))
  | 0 => F.ok sc__law_same (fun vs H Q E ⟨G, ds, d, b, _, r, hl, z, _⟩ => by cases z) fun cdv A outer s H vs Q E hr ⟨G, ds, d, b, _, r, hl, z, _⟩ => by cases z
  | m + 1 => by
    have c__law_same : Ow P w K mg base (1 + m) "_law_same" ["seen", "due"] (sp0 K 2 (F__law_same m)) := ⟨f, fd, hm, F.kp, F.bindsN fun _ _ _ _ _ _ us hl => match us, hl with | [_, _], _ => rfl, fr__law_same M F  hm m⟩
    have hN := sc__law_same.nd
    refine ok_def0 F sc__law_same fun cdv A outer s H E hr => ?_
    have hc : (cxOf CX0 P w K mg base ["seen", "due", "k"] "_law_same" (defScope s__law_same) f cdv A outer s H E).nox.calm = true := rfl
    exact (fs_cons (fs_if (ft_val (fe_isi (fo_name (pv 1)) M.isinstance M.tuple)) (fs_cons (fs_if (PW.pt (fw_or (ft_not (ft_val (fe_isi (fo_name (pv 0)) M.isinstance M.tuple))) (fw_or1 (ft_cmp o2_ne (op_neD hr.u64) (fo_e (fe_callB on_len cr_lenA M.len (fa_cons (fo_name (pv 0)) fa_nil))) (fo_e (fe_callB on_len cr_lenA M.len (fa_cons (fo_name (pv 1)) fa_nil))) (nomark _))))) (fs_one (fs_ret (fe_v fv_bl))) fs_nil) (fs_one (fs_ret (fe_cmp o2_eq (op_eqD hr.u64) (fo_e (fe_lc (own := [("k", 2)]) hc hN (fi_range1 M.range (fa_cons (fo_e (fe_callB on_len cr_lenA M.len (fa_cons (fo_name (pv 1)) fa_nil))) fa_nil)) (blkOf (by kernel_rfl)) (by decide) (fun _ _ _ _ _ => (fg_name hN)) (fun _ _ _ _ _ => (ft_one (ft_not (ft_val (fe_callO c__law_same hr (fl_cons (fv_e (fe_ix o2_ixA (ix_A hr.u1) (fo_name (pv 0)) (fo_name (pv 2)) (fun _ _ => rfl))) (fl_cons (fv_e (fe_ix o2_ixA (ix_A hr.u1) (fo_name (pv 1)) (fo_name (pv 2)) (fun _ _ => rfl))) fl_nil)) (by first | decide | omega | (simp only [Nat.add_eq]; omega))))))) (fun _ _ _ _ _ => (fv_name (pv 2))))) (fo_e (fe_lst fl_nil)) (nomark _))))) fs_nil) (fs_cons (fs_if (ft_isN (fo_name (pv 1))) (fs_one (fs_ret (fe_isN (fo_name (pv 0))))) fs_nil) (fs_cons (fs_if (ft_val (fe_isi (fo_name (pv 1)) M.isinstance M.str)) (fs_one (fs_ret (fe_and (fe_isi (fo_name (pv 0)) M.isinstance M.str) (fe_one (fe_cmp o2_eq (op_eqD hr.u64) (fo_name (pv 0)) (fo_name (pv 1)) (nomark _)))))) fs_nil) (fs_one (fs_ret (fe_and (fe_isi (fo_name (pv 0)) M.isinstance M.int) (fe_and (fe_cmp o2_eq (op_eqD hr.u64) (fo_e (fe_isi (fo_name (pv 0)) M.isinstance M.bool)) (fo_e (fe_isi (fo_name (pv 1)) M.isinstance M.bool)) (nomark _)) (fe_one (fe_cmp o2_eq (op_eqD hr.u64) (fo_name (pv 0)) (fo_name (pv 1)) (nomark _))))))))))
theorem fn__law_same {P : Program} {w : World} {K : PySem.W.Frag} {mg : Str → Option Value} {base : Heap} {f : Addr} {fd : FuncData} (M : Mg mg) (F : FunD K "_law_same" "_law_same" (defArgs s__law_same) (defBody s__law_same) (defScope s__law_same) [] [] f fd)  (hm : mg "_law_same" = some (.ref f)) : FnOk P w K mg base CX0 21 f fd ["seen", "due"] (sp0 K 2 (F__law_same recN)) := fr__law_same M F  hm recN
theorem ok__law_same {P : Program} {w : World} {K : PySem.W.Frag} {mg : Str → Option Value} {base : Heap} {f : Addr} {fd : FuncData} (M : Mg mg) (F : FunD K "_law_same" "_law_same" (defArgs s__law_same) (defBody s__law_same) (defScope s__law_same) [] [] f fd)  (hm : mg "_law_same" = some (.ref f)) : Ow P w K mg base 21 "_law_same" ["seen", "due"] (sp0 K 2 (F__law_same recN)) :=
  ⟨f, fd, hm, F.kp, F.bindsN fun _ _ _ _ _ _ us hl => match us, hl with | [_, _], _ => rfl, fn__law_same M F  hm⟩
def b__law_sets : Sv := sSeq (sSet 1 (fLst (lCons (fTup (lNil)) (lNil)))) (sSeq (sFor (itV (fName 0)) (gN 2) (sSet 1 (f2 (fSlot 1) (toO (fLc [3] (itV (fName 1)) (gN 3) (tTrue) (toV (f2 (fSlot 3) (svO (fTup (lCons (fName 2) (lNil)))) (dAdd))))) (dAdd)))) (sRet (fLc [4, 3] (itV (toV (fN (aCons (toO (fLc [3] (itV (fName 1)) (gN 3) (tTrue) (fTup (lCons (toV (fN (aCons (fSlot 3) (aNil)) dLen)) (lCons (fName 3) (lNil)))))) (aNil)) dSort))) (gT 2 (gsCons (gN 4) (gsCons (gN 3) (gsNil)))) (tTrue) (fName 3))))
def F__law_sets : List D → Option (D × Bool) := mk0 5 b__law_sets
theorem sc__law_sets : FnScope ["things", "found", "thing", "some", "size"] ["things"] (defScope s__law_sets) := ⟨rfl, rfl, rfl, by decide +kernel, rfl, by decide +kernel, by decide +kernel⟩
theorem fn__law_sets {P : Program} {w : World} {K : PySem.W.Frag} {mg : Str → Option Value} {base : Heap} {f : Addr} {fd : FuncData} (M : Mg mg) (F : FunD K "_law_sets" "_law_sets" (defArgs s__law_sets) (defBody s__law_sets) (defScope s__law_sets) [] [] f fd)  : FnOk P w K mg base CX0 1 f fd ["things"] (sp0 K 1 F__law_sets) := by
  have hN := sc__law_sets.nd
  refine ok_def0 F sc__law_sets fun cdv A outer s H E hr => ?_
  have hc : (cxOf CX0 P w K mg base ["things", "found", "thing", "some", "size"] "_law_sets" (defScope s__law_sets) f cdv A outer s H E).nox.calm = true := rfl
  exact (fs_cons (fs_set (i := 1) hN (fe_lst (fl_cons (fv_tup fl_nil) fl_nil))) (fs_cons (fs_for PassesOwn.never hc (fi_val (fv_name (pv 0))) (fg_name hN) (fs_one (fs_set (i := 1) hN (fe_op o2_add op_addD (fo_name (pv 1)) (fo_e (fe_lc (own := [("some", 3)]) hc hN (fi_val (fv_name (pv 1))) (blkOf (by kernel_rfl)) (by decide) (fun _ _ _ _ _ => (fg_name hN)) (fun _ _ _ _ _ => ft_none) (fun _ _ _ _ _ => (fv_e (fe_op o2_add op_addD (fo_name (pv 3)) (fo_v (fv_tup (fl_cons (fv_name (pv 2)) fl_nil)))))))))))) (fs_one (fs_ret (fe_lc (own := [("size", 4), ("some", 3)]) hc hN (fi_val (fv_e (fe_callB on_sort (cr_sortG hc hr.u64) M.sorted (fa_cons (fo_e (fe_lc (own := [("some", 3)]) hc hN (fi_val (fv_name (pv 1))) (blkOf (by kernel_rfl)) (by decide) (fun _ _ _ _ _ => (fg_name hN)) (fun _ _ _ _ _ => ft_none) (fun _ _ _ _ _ => (fv_tup (fl_cons (fv_e (fe_callB on_len cr_lenA M.len (fa_cons (fo_name (pv 3)) fa_nil))) (fl_cons (fv_name (pv 3)) fl_nil)))))) fa_nil)))) (blkOf (by kernel_rfl)) (by decide) (fun _ _ _ _ _ => (fg_tup hc (fgs_cons (fg_name hN) (fgs_cons (fg_name hN) fgs_nil)))) (fun _ _ _ _ _ => ft_none) (fun _ _ _ _ _ => (fv_name (pv 3))))))))
theorem ok__law_sets {P : Program} {w : World} {K : PySem.W.Frag} {mg : Str → Option Value} {base : Heap} {f : Addr} {fd : FuncData} (M : Mg mg) (F : FunD K "_law_sets" "_law_sets" (defArgs s__law_sets) (defBody s__law_sets) (defScope s__law_sets) [] [] f fd)  (hm : mg "_law_sets" = some (.ref f)) : Ow P w K mg base 1 "_law_sets" ["things"] (sp0 K 1 F__law_sets) :=
  ⟨f, fd, hm, F.kp, F.bindsN fun _ _ _ _ _ _ us hl => match us, hl with | [_], _ => rfl, fn__law_sets M F ⟩
def b__law_is_number : Sv := sRet (fAnd (fIsi (fSlot 0) "int") (fNot (fIsi (fSlot 0) "bool")))
def F__law_is_number : List D → Option (D × Bool) := mk0 1 b__law_is_number
theorem sc__law_is_number : FnScope ["thing"] ["thing"] (defScope s__law_is_number) := ⟨rfl, rfl, rfl, by decide +kernel, rfl, by decide +kernel, by decide +kernel⟩
theorem fn__law_is_number {P : Program} {w : World} {K : PySem.W.Frag} {mg : Str → Option Value} {base : Heap} {f : Addr} {fd : FuncData} (M : Mg mg) (F : FunD K "_law_is_number" "_law_is_number" (defArgs s__law_is_number) (defBody s__law_is_number) (defScope s__law_is_number) [] [] f fd)  : FnOk P w K mg base CX0 1 f fd ["thing"] (sp0 K 1 F__law_is_number) := by
  have hN := sc__law_is_number.nd
  refine ok_def0 F sc__law_is_number fun cdv A outer s H E hr => ?_
  have hc : (cxOf CX0 P w K mg base ["thing"] "_law_is_number" (defScope s__law_is_number) f cdv A outer s H E).nox.calm = true := rfl
  exact (fs_one (fs_ret (fe_and (fe_isi (fo_name (pv 0)) M.isinstance M.int) (fe_one (fe_not (fe_isi (fo_name (pv 0)) M.isinstance M.bool))))))
theorem ok__law_is_number {P : Program} {w : World} {K : PySem.W.Frag} {mg : Str → Option Value} {base : Heap} {f : Addr} {fd : FuncData} (M : Mg mg) (F : FunD K "_law_is_number" "_law_is_number" (defArgs s__law_is_number) (defBody s__law_is_number) (defScope s__law_is_number) [] [] f fd)  (hm : mg "_law_is_number" = some (.ref f)) : Ow P w K mg base 1 "_law_is_number" ["thing"] (sp0 K 1 F__law_is_number) :=
  ⟨f, fd, hm, F.kp, F.bindsN fun _ _ _ _ _ _ us hl => match us, hl with | [_], _ => rfl, fn__law_is_number M F ⟩
def b__law_same_dict : Sv := sSeq (sIf (tOrF (tNotF (tB1 (fIsi (fSlot 0) "dict"))) (tOrF (tB1 (f2 (toO (fN (aCons (fSlot 0) (aNil)) dLen)) (toO (fN (aCons (fSlot 1) (aNil)) dLen)) (dNe))) (tB1 (f2 (toO (fLc [2] (itE (fName 1)) (gN 2) (tB1 (f2 (fSlot 2) (fSlot 0) (dNotIn))) (fName 2))) (toO (fLst (lNil))) (dNe))))) (sRet (ofV (fC (.bool false)))) (sNx)) (sRet (f2 (toO (fLc [2] (itE (fName 1)) (gN 2) (tNotF (tB1 (fCall 2 (lCons (toV (f2 (fSlot 0) (fSlot 2) dIxA)) (lCons (toV (f2 (fSlot 1) (fSlot 2) dIxA)) (lNil))) (F__law_same recN)))) (fName 2))) (toO (fLst (lNil))) (dEq)))
def F__law_same_dict : List D → Option (D × Bool) := mk0 3 b__law_same_dict
theorem sc__law_same_dict : FnScope ["seen", "due", "key"] ["seen", "due"] (defScope s__law_same_dict) := ⟨rfl, rfl, rfl, by decide +kernel, rfl, by decide +kernel, by decide +kernel⟩
theorem fn__law_same_dict {P : Program} {w : World} {K : PySem.W.Frag} {mg : Str → Option Value} {base : Heap} {f : Addr} {fd : FuncData} (M : Mg mg) (F : FunD K "_law_same_dict" "_law_same_dict" (defArgs s__law_same_dict) (defBody s__law_same_dict) (defScope s__law_same_dict) [] [] f fd) (c__law_same : Ow P w K mg base 21 "_law_same" ["seen", "due"] (sp0 K 2 (F__law_same recN))) : FnOk P w K mg base CX0 22 f fd ["seen", "due"] (sp0 K 2 F__law_same_dict) := by
  have hN := sc__law_same_dict.nd
  refine ok_def0 F sc__law_same_dict fun cdv A outer s H E hr => ?_
  have hc : (cxOf CX0 P w K mg base ["seen", "due", "key"] "_law_same_dict" (defScope s__law_same_dict) f cdv A outer s H E).nox.calm = true := rfl
  exact (fs_cons (fs_if (PW.pt (fw_or (ft_not (ft_val (fe_isi (fo_name (pv 0)) M.isinstance M.dict))) (fw_or (ft_cmp o2_ne (op_neD hr.u64) (fo_e (fe_callB on_len cr_lenA M.len (fa_cons (fo_name (pv 0)) fa_nil))) (fo_e (fe_callB on_len cr_lenA M.len (fa_cons (fo_name (pv 1)) fa_nil))) (nomark _)) (fw_or1 (ft_cmp o2_ne (op_neD hr.u64) (fo_e (fe_lcE (own := [("key", 2)]) hc hN (fi_valE (fv_name (pv 1))) (blkOf (by kernel_rfl)) (by decide) (fun _ _ _ _ _ => (fg_name hN)) (fun _ _ _ _ _ => (ft_one (ft_cmp o2_notIn (op_notInA hr.u65) (fo_name (pv 2)) (fo_name (pv 0)) (by rfl)))) (fun _ _ _ _ _ => (fv_name (pv 2))))) (fo_e (fe_lst fl_nil)) (nomark _)))))) (fs_one (fs_ret (fe_v fv_bl))) fs_nil) (fs_one (fs_ret (fe_cmp o2_eq (op_eqD hr.u64) (fo_e (fe_lcE (own := [("key", 2)]) hc hN (fi_valE (fv_name (pv 1))) (blkOf (by kernel_rfl)) (by decide) (fun _ _ _ _ _ => (fg_name hN)) (fun _ _ _ _ _ => (ft_one (ft_not (ft_val (fe_callO c__law_same hr (fl_cons (fv_e (fe_ix o2_ixA (ix_A hr.u1) (fo_name (pv 0)) (fo_name (pv 2)) (fun _ _ => rfl))) (fl_cons (fv_e (fe_ix o2_ixA (ix_A hr.u1) (fo_name (pv 1)) (fo_name (pv 2)) (fun _ _ => rfl))) fl_nil)) (by first | decide | omega | (simp only [Nat.add_eq]; omega))))))) (fun _ _ _ _ _ => (fv_name (pv 2))))) (fo_e (fe_lst fl_nil)) (nomark _)))))
theorem ok__law_same_dict {P : Program} {w : World} {K : PySem.W.Frag} {mg : Str → Option Value} {base : Heap} {f : Addr} {fd : FuncData} (M : Mg mg) (F : FunD K "_law_same_dict" "_law_same_dict" (defArgs s__law_same_dict) (defBody s__law_same_dict) (defScope s__law_same_dict) [] [] f fd) (c__law_same : Ow P w K mg base 21 "_law_same" ["seen", "due"] (sp0 K 2 (F__law_same recN))) (hm : mg "_law_same_dict" = some (.ref f)) : Ow P w K mg base 22 "_law_same_dict" ["seen", "due"] (sp0 K 2 F__law_same_dict) :=
  ⟨f, fd, hm, F.kp, F.bindsN fun _ _ _ _ _ _ us hl => match us, hl with | [_, _], _ => rfl, fn__law_same_dict M F c__law_same⟩
def b__law_samples : Sv := sSeq (sParN [1, 2] (mCons (fSl (toO (fLst (lCons (fC (.str "a")) (lCons (fC (.str "b2")) (lCons (fC (.str "c")) (lCons (fC (.str "d")) (lNil))))))) (pNone) (pInt (toO (f2 (svO (fC (.int 1))) (toO (fCallW 1 0 (lCons (fC (.int 4)) (lNil)) F__law_next)) (dAdd)))) dSl) (mCons (fLst (lNil)) (mNil)))) (sSeq (sSet 3 (fN (aCons (toO (fLc [4] (itV (fName 1)) (gN 4) (tTrue) (fTup (lCons (fName 4) (lCons (fTup (lCons (toV (fCallW 1 0 (lCons (fC (.int 5)) (lNil)) F__law_next)) (lCons (toV (f2 (toO (fCallW 1 0 (lCons (fC (.int 7)) (lNil)) F__law_next)) (svO (fC (.int 3))) (isI iSub))) (lCons (toV (f2 (svO (fC (.int 1))) (toO (fCallW 1 0 (lCons (fC (.int 4)) (lNil)) F__law_next)) (dAdd))) (lNil))))) (lNil)))))) (aNil)) dDict)) (sSeq (sFor (itR (aCons (toO (f2 (svO (fC (.int 1))) (toO (fCallW 1 0 (lCons (fC (.int 5)) (lNil)) F__law_next)) (dAdd))) (aNil)) range1D) (gN 5) (sSeq (sSet 6 (fun en => some (.dict [], true, en))) (sSeq (sFor (itV (toV (f1 (fSlot 1) dRevA))) (gN 4) (sSeq (sAsg (toV (f2 (fSlot 3) (fSlot 4) dIxA)) (gT 3 (gsCons (gN 7) (gsCons (gN 8) (gsCons (gN 9) (gsNil)))))) (sAsg (toV (fIf (tB1 (f2 (fSlot 7) (svO (fC (.int 0))) (dEq))) (ofV (fName 8)) (fIf (tB1 (f2 (fSlot 7) (svO (fC (.int 3))) (isI iLt))) (f2 (fSlot 8) (toO (f2 (fSlot 9) (toO (f2 (toO (fCallW 1 0 (lCons (fC (.int 5)) (lNil)) F__law_next)) (svO (fC (.int 1))) (isI iSub))) (isI iMul))) (dAdd)) (f2 (toO (fCallW 1 0 (lCons (fC (.int 9)) (lNil)) F__law_next)) (svO (fC (.int 4))) (isI iSub))))) (gSubD 6 (fName 4))))) (sSeq (sIf (tAndF (tB1 (f2 (toO (f2 (toO (f2 (fSlot 3) (toO (f2 (fSlot 1) (svO (fC (.int 0))) dIxA)) dIxA)) (svO (fC (.int 0))) dIxA)) (svO (fC (.int 4))) (dEq))) (tB1 (f2 (toO (fN (aCons (fSlot 1) (aNil)) dLen)) (svO (fC (.int 1))) (isI iGt)))) (sAsg (toV (f2 (toO (f2 (fSlot 6) (toO (f2 (fSlot 1) (svO (fC (.int 1))) dIxA)) dIxA)) (toO (fCallW 1 0 (lCons (fC (.int 2)) (lNil)) F__law_next)) (dAdd))) (gSubD 6 (toV (f2 (fSlot 1) (svO (fC (.int 0))) dIxA)))) (sNx)) (sExpr (fMut 2 isLst (lCons (fName 6) (lNil)) mAppend)))))) (sRet (fN (aCons (fSlot 2) (aNil)) dTuple))))
def F__law_samples : D → List D → Option (D × Bool × D) := mkW 10 b__law_samples
theorem sc__law_samples : FnScope ["w", "names", "found", "kinds", "name", "k", "one", "kind", "base", "step"] ["w"] (defScope s__law_samples) := ⟨rfl, rfl, rfl, by decide +kernel, rfl, by decide +kernel, by decide +kernel⟩
theorem fn__law_samples {P : Program} {w : World} {K : PySem.W.Frag} {mg : Str → Option Value} {base : Heap} {f : Addr} {fd : FuncData} (M : Mg mg) (F : FunD K "_law_samples" "_law_samples" (defArgs s__law_samples) (defBody s__law_samples) (defScope s__law_samples) [] [] f fd) (c__law_next : Ow P w K mg base 1 "_law_next" ["w", "many"] (spW K 1 F__law_next)) : FnOk P w K mg base CX0 2 f fd ["w"] (spW K 0 F__law_samples) := by
  have hN := sc__law_samples.nd
  refine ok_defW (np := 0) F sc__law_samples rfl (by decide) fun cdv A outer s H E hr => ?_
  have hc : (cxOf CX0 P w K mg base ["w", "names", "found", "kinds", "name", "k", "one", "kind", "base", "step"] "_law_samples" (defScope s__law_samples) f cdv A outer s H E).nox.calm = true := rfl
  exact (fs_cons (fs_par2 (i := 1) (j := 2) hc hN (fm_cons (fe_slice os_sl sl_D (fo_e (fe_lst (fl_cons fv_str (fl_cons fv_str (fl_cons fv_str (fl_cons fv_str fl_nil)))))) fp_none (fp_some (fo_e (fe_op o2_add op_addD (fo_v fv_int) (fo_e (fe_callWO c__law_next hr (pv 0) (fl_cons fv_int fl_nil) (by first | decide | omega | (simp only [Nat.add_eq]; omega)))))))) (fm_cons (fe_lst fl_nil) fm_nil))) (fs_cons (fs_set (i := 3) hN (fe_callTy on_dict (cr_dictOf hc) M.dict (fa_cons (fo_e (fe_lc (own := [("name", 4)]) hc hN (fi_val (fv_name (pv 1))) (blkOf (by kernel_rfl)) (by decide) (fun _ _ _ _ _ => (fg_name hN)) (fun _ _ _ _ _ => ft_none) (fun _ _ _ _ _ => (fv_tup (fl_cons (fv_name (pv 4)) (fl_cons (fv_tup (fl_cons (fv_e (fe_callWO c__law_next hr (pv 0) (fl_cons fv_int fl_nil) (by first | decide | omega | (simp only [Nat.add_eq]; omega)))) (fl_cons (fv_e (fe_op o2_sub op_sub (fo_e (fe_callWO c__law_next hr (pv 0) (fl_cons fv_int fl_nil) (by first | decide | omega | (simp only [Nat.add_eq]; omega)))) (fo_v fv_int))) (fl_cons (fv_e (fe_op o2_add op_addD (fo_v fv_int) (fo_e (fe_callWO c__law_next hr (pv 0) (fl_cons fv_int fl_nil) (by first | decide | omega | (simp only [Nat.add_eq]; omega)))))) fl_nil)))) fl_nil)))))) fa_nil))) (fs_cons (fs_for PassesOwn.never hc (fi_range1 M.range (fa_cons (fo_e (fe_op o2_add op_addD (fo_v fv_int) (fo_e (fe_callWO c__law_next hr (pv 0) (fl_cons fv_int fl_nil) (by first | decide | omega | (simp only [Nat.add_eq]; omega)))))) fa_nil)) (fg_name hN) (fs_cons (fs_set (i := 6) hN fe_dnew) (fs_cons (fs_for PassesOwn.never hc (fi_val (fv_e (fe_revA (fo_name (pv 1))))) (fg_name hN) (fs_cons (fs_asg (fv_e (fe_ix o2_ixA (ix_A hr.u1) (fo_name (pv 3)) (fo_name (pv 4)) (fun _ _ => rfl))) (fg_tup hc (fgs_cons (fg_name hN) (fgs_cons (fg_name hN) (fgs_cons (fg_name hN) fgs_nil))))) (fs_one (fs_asg (fv_e (fe_if (ft_cmp o2_eq (op_eqD hr.u64) (fo_name (pv 7)) (fo_v fv_int) (nomark _)) (fe_v (fv_name (pv 8))) (fe_if (ft_cmp o2_ltI op_lt (fo_name (pv 7)) (fo_v fv_int) (nomark _)) (fe_op o2_add op_addD (fo_name (pv 8)) (fo_e (fe_op o2_mulI op_mul (fo_name (pv 9)) (fo_e (fe_op o2_sub op_sub (fo_e (fe_callWO c__law_next hr (pv 0) (fl_cons fv_int fl_nil) (by first | decide | omega | (simp only [Nat.add_eq]; omega)))) (fo_v fv_int)))))) (fe_op o2_sub op_sub (fo_e (fe_callWO c__law_next hr (pv 0) (fl_cons fv_int fl_nil) (by first | decide | omega | (simp only [Nat.add_eq]; omega)))) (fo_v fv_int))))) (fg_sub hr.u1 (pv 6) (fv_name (pv 4))))))) (fs_cons (fs_if (PW.pt (fw_and (ft_cmp o2_eq (op_eqD hr.u64) (fo_e (fe_ix o2_ixA (ix_A hr.u1) (fo_e (fe_ix o2_ixA (ix_A hr.u1) (fo_name (pv 3)) (fo_e (fe_ix o2_ixA (ix_A hr.u1) (fo_name (pv 1)) (fo_v fv_int) (fun _ _ => rfl))) (fun _ _ => rfl))) (fo_v fv_int) (fun _ _ => rfl))) (fo_v fv_int) (nomark _)) (fw_and1 (ft_cmp o2_gtI op_gt (fo_e (fe_callB on_len cr_lenA M.len (fa_cons (fo_name (pv 1)) fa_nil))) (fo_v fv_int) (nomark _))))) (fs_one (fs_asg (fv_e (fe_op o2_add op_addD (fo_e (fe_ix o2_ixA (ix_A hr.u1) (fo_name (pv 6)) (fo_e (fe_ix o2_ixA (ix_A hr.u1) (fo_name (pv 1)) (fo_v fv_int) (fun _ _ => rfl))) (fun _ _ => rfl))) (fo_e (fe_callWO c__law_next hr (pv 0) (fl_cons fv_int fl_nil) (by first | decide | omega | (simp only [Nat.add_eq]; omega)))))) (fg_sub hr.u1 (pv 6) (fv_e (fe_ix o2_ixA (ix_A hr.u1) (fo_name (pv 1)) (fo_v fv_int) (fun _ _ => rfl)))))) fs_nil) (fs_one (fs_expr (fe_mut (kindL _) om_append PySem.F.plainAttrs_list PySem.F.slot_list_append PySem.type_list_append mt_append (pv 2) (fl_cons (fv_name (pv 6)) fl_nil)))))))) (fs_one (fs_ret (fe_callTy on_tuple cr_tupOf M.tuple (fa_cons (fo_name (pv 2)) fa_nil)))))))
theorem ok__law_samples {P : Program} {w : World} {K : PySem.W.Frag} {mg : Str → Option Value} {base : Heap} {f : Addr} {fd : FuncData} (M : Mg mg) (F : FunD K "_law_samples" "_law_samples" (defArgs s__law_samples) (defBody s__law_samples) (defScope s__law_samples) [] [] f fd) (c__law_next : Ow P w K mg base 1 "_law_next" ["w", "many"] (spW K 1 F__law_next)) (hm : mg "_law_samples" = some (.ref f)) : Ow P w K mg base 2 "_law_samples" ["w"] (spW K 0 F__law_samples) :=
  ⟨f, fd, hm, F.kp, F.bindsN fun _ _ _ _ _ _ us hl => match us, hl with | [_], _ => rfl, fn__law_samples M F c__law_next⟩
def b__law_are : Sv := sSeq (sIf (tOrF (tNotF (tB1 (fIsi (fSlot 0) "tuple"))) (tOrF (tB1 (f2 (fSlot 0) (svO (fTup (lNil))) (dEqT))) (tB1 (f2 (toO (fLc [1] (itV (fName 0)) (gN 1) (tNotF (tB1 (fIsi (fSlot 1) "dict"))) (fName 1))) (toO (fLst (lNil))) (dNe))))) (sRet (ofV (fC (.bool false)))) (sNx)) (sSeq (sFor (itV (fName 0)) (gN 1) (sSeq (sFor (itE (fName 1)) (gN 2) (sSeq (sIf (tOrF (tNotF (tB1 (fIsi (fSlot 2) "str"))) (tOrF (tB1 (f2 (fSlot 2) (svO (fC (.str ""))) (dEq))) (tOrF (tNotF (tB1 (fChain (svO (fC (.str "a"))) (toO (f2 (fSlot 2) (svO (fC (.int 0))) dIxA)) (dLeS) (dLeS) (svO (fC (.str "z")))))) (tB1 (f2 (toO (fLc [3] (itV (fName 2)) (gN 3) (tNotF (tOrF (tB1 (fChain (svO (fC (.str "a"))) (fSlot 3) (dLeS) (dLeS) (svO (fC (.str "z"))))) (tB1 (fChain (svO (fC (.str "0"))) (fSlot 3) (dLeS) (dLeS) (svO (fC (.str "9"))))))) (fName 3))) (toO (fLst (lNil))) (dNe)))))) (sRet (ofV (fC (.bool false)))) (sNx)) (sIf (tNotF (tB1 (fCall 1 (lCons (toV (f2 (fSlot 1) (fSlot 2) dIxA)) (lNil)) F__law_is_number))) (sRet (ofV (fC (.bool false)))) (sNx)))) (sIf (tB1 (f2 (toO (fN (aCons (fSlot 1) (aNil)) dSort)) (toO (fN (aCons (toO (f2 (fSlot 0) (svO (fC (.int 0))) dIxA)) (aNil)) dSort)) (dNe))) (sRet (ofV (fC (.bool false)))) (sNx)))) (sRet (ofV (fC (.bool true)))))
def F__law_are : List D → Option (D × Bool) := mk0 4 b__law_are
theorem sc__law_are : FnScope ["thing", "one", "name", "x"] ["thing"] (defScope s__law_are) := ⟨rfl, rfl, rfl, by decide +kernel, rfl, by decide +kernel, by decide +kernel⟩
theorem fn__law_are {P : Program} {w : World} {K : PySem.W.Frag} {mg : Str → Option Value} {base : Heap} {f : Addr} {fd : FuncData} (M : Mg mg) (F : FunD K "_law_are" "_law_are" (defArgs s__law_are) (defBody s__law_are) (defScope s__law_are) [] [] f fd) (c__law_is_number : Ow P w K mg base 1 "_law_is_number" ["thing"] (sp0 K 1 F__law_is_number)) : FnOk P w K mg base CX0 2 f fd ["thing"] (sp0 K 1 F__law_are) := by
  have hN := sc__law_are.nd
  refine ok_def0 F sc__law_are fun cdv A outer s H E hr => ?_
  have hc : (cxOf CX0 P w K mg base ["thing", "one", "name", "x"] "_law_are" (defScope s__law_are) f cdv A outer s H E).nox.calm = true := rfl
  exact (fs_cons (fs_if (PW.pt (fw_or (ft_not (ft_val (fe_isi (fo_name (pv 0)) M.isinstance M.tuple))) (fw_or (ft_cmp o2_eqT (op_eqT hr.u64) (fo_name (pv 0)) (fo_v (fv_tup fl_nil)) (nomark _)) (fw_or1 (ft_cmp o2_ne (op_neD hr.u64) (fo_e (fe_lc (own := [("one", 1)]) hc hN (fi_val (fv_name (pv 0))) (blkOf (by kernel_rfl)) (by decide) (fun _ _ _ _ _ => (fg_name hN)) (fun _ _ _ _ _ => (ft_one (ft_not (ft_val (fe_isi (fo_name (pv 1)) M.isinstance M.dict))))) (fun _ _ _ _ _ => (fv_name (pv 1))))) (fo_e (fe_lst fl_nil)) (nomark _)))))) (fs_one (fs_ret (fe_v fv_bl))) fs_nil) (fs_cons (fs_for PassesOwn.never hc (fi_val (fv_name (pv 0))) (fg_name hN) (fs_cons (fs_forE PassesOwn.never hc (fi_valE (fv_name (pv 1))) (fg_name hN) (fs_cons (fs_if (PW.pt (fw_or (ft_not (ft_val (fe_isi (fo_name (pv 2)) M.isinstance M.str))) (fw_or (ft_cmp o2_eq (op_eqD hr.u64) (fo_name (pv 2)) (fo_v fv_str) (nomark _)) (fw_or (ft_not (ft_chain o2_leS o2_leS op_le_str op_le_str (fo_v fv_str) (fo_e (fe_ix o2_ixA (ix_A hr.u1) (fo_name (pv 2)) (fo_v fv_int) (fun _ _ => rfl))) (fo_v fv_str) (pt_chain op_le_str op_le_str (fo_v fv_str) (fo_e (fe_ix o2_ixA (ix_A hr.u1) (fo_name (pv 2)) (fo_v fv_int) (fun _ _ => rfl))) (fo_v fv_str)))) (fw_or1 (ft_cmp o2_ne (op_neD hr.u64) (fo_e (fe_lc (own := [("x", 3)]) hc hN (fi_val (fv_name (pv 2))) (blkOf (by kernel_rfl)) (by decide) (fun _ _ _ _ _ => (fg_name hN)) (fun _ _ _ _ _ => (ft_one (ft_not (PW.pt (fw_or (ft_chain o2_leS o2_leS op_le_str op_le_str (fo_v fv_str) (fo_name (pv 3)) (fo_v fv_str) (pt_chain op_le_str op_le_str (fo_v fv_str) (fo_name (pv 3)) (fo_v fv_str))) (fw_or1 (ft_chain o2_leS o2_leS op_le_str op_le_str (fo_v fv_str) (fo_name (pv 3)) (fo_v fv_str) (pt_chain op_le_str op_le_str (fo_v fv_str) (fo_name (pv 3)) (fo_v fv_str))))))))) (fun _ _ _ _ _ => (fv_name (pv 3))))) (fo_e (fe_lst fl_nil)) (nomark _))))))) (fs_one (fs_ret (fe_v fv_bl))) fs_nil) (fs_one (fs_if (ft_not (ft_val (fe_callO c__law_is_number hr (fl_cons (fv_e (fe_ix o2_ixA (ix_A hr.u1) (fo_name (pv 1)) (fo_name (pv 2)) (fun _ _ => rfl))) fl_nil) (by first | decide | omega | (simp only [Nat.add_eq]; omega))))) (fs_one (fs_ret (fe_v fv_bl))) fs_nil)))) (fs_one (fs_if (ft_cmp o2_ne (op_neD hr.u64) (fo_e (fe_callB on_sort (cr_sortG hc hr.u64) M.sorted (fa_cons (fo_name (pv 1)) fa_nil))) (fo_e (fe_callB on_sort (cr_sortG hc hr.u64) M.sorted (fa_cons (fo_e (fe_ix o2_ixA (ix_A hr.u1) (fo_name (pv 0)) (fo_v fv_int) (fun _ _ => rfl))) fa_nil))) (nomark _)) (fs_one (fs_ret (fe_v fv_bl))) fs_nil)))) (fs_one (fs_ret (fe_v fv_bl)))))
theorem ok__law_are {P : Program} {w : World} {K : PySem.W.Frag} {mg : Str → Option Value} {base : Heap} {f : Addr} {fd : FuncData} (M : Mg mg) (F : FunD K "_law_are" "_law_are" (defArgs s__law_are) (defBody s__law_are) (defScope s__law_are) [] [] f fd) (c__law_is_number : Ow P w K mg base 1 "_law_is_number" ["thing"] (sp0 K 1 F__law_is_number)) (hm : mg "_law_are" = some (.ref f)) : Ow P w K mg base 2 "_law_are" ["thing"] (sp0 K 1 F__law_are) :=
  ⟨f, fd, hm, F.kp, F.bindsN fun _ _ _ _ _ _ us hl => match us, hl with | [_], _ => rfl, fn__law_are M F c__law_is_number⟩
def b_law : Sv := sSeq (sSet 1 (fDisp (lCons (fC (.str "draws")) (lCons (toV (fCall 2 (lCons (fName 0) (lCons (fC (.int 400)) (lNil))) F__law_draws)) (lCons (fC (.str "at")) (lCons (fC (.int 0)) (lNil))))))) (sSeq (sFor (itR (aCons (svO (fC (.int 6))) (aNil)) range1D) (gN 2) (sSeq (sSet 3 (fCallW 0 1 (lNil) F__law_samples)) (sSeq (sSet 4 (fN (aCons (toO (f2 (fSlot 3) (svO (fC (.int 0))) dIxA)) (aNil)) dSort)) (sSeq (sSet 5 (fN (aCons (toO (fLc [6] (itV (fName 4)) (gN 6) (tTrue) (fTup (lCons (fName 6) (lCons (toV (fLc [7] (itV (fName 3)) (gN 7) (tTrue) (toV (f2 (fSlot 7) (fSlot 6) dIxA)))) (lNil)))))) (aNil)) dDict)) (sSeq (sSet 8 (fLc [6] (itV (fName 4)) (gN 6) (tB1 (f2 (toO (fN (aCons (toO (f2 (fSlot 5) (fSlot 6) dIxA)) (aNil)) dLenSet)) (svO (fC (.int 1))) (dEq))) (fName 6))) (sSeq (sIf (tNotF (tB1 (fCall 2 (lCons (toV (fCall 1 (lCons (fName 3) (lNil)) F_constants)) (lCons (toV (fN (aCons (toO (fLc [6] (itV (fName 8)) (gN 6) (tTrue) (fTup (lCons (fName 6) (lCons (toV (f2 (toO (f2 (fSlot 5) (fSlot 6) dIxA)) (svO (fC (.int 0))) dIxA)) (lNil)))))) (aNil)) dDict)) (lNil))) F__law_same_dict))) (sRet (ofV (fC (.bool false)))) (sNx)) (sSeq (sIf (tNotF (tB1 (fCall 2 (lCons (toV (fCall 1 (lCons (fName 3) (lNil)) F_ranges)) (lCons (toV (fN (aCons (toO (fLc [6] (itV (fName 4)) (gN 6) (tTrue) (fTup (lCons (fName 6) (lCons (fTup (lCons (toV (fN (aCons (toO (f2 (fSlot 5) (fSlot 6) dIxA)) (aNil)) (dPick PySem.W.minD))) (lCons (toV (fN (aCons (toO (f2 (fSlot 5) (fSlot 6) dIxA)) (aNil)) (dPick PySem.W.maxD))) (lNil)))) (lNil)))))) (aNil)) dDict)) (lNil))) F__law_same_dict))) (sRet (ofV (fC (.bool false)))) (sNx)) (sSeq (sIf (tNotF (tB1 (fCall 2 (lCons (toV (fCall 1 (lCons (fName 3) (lNil)) F_never_zero)) (lCons (toV (fN (aCons (toO (fLc [6] (itV (fName 4)) (gN 6) (tB1 (f2 (svO (fC (.int 0))) (toO (f2 (fSlot 5) (fSlot 6) dIxA)) (dNotIn))) (fName 6))) (aNil)) dTuple)) (lNil))) (F__law_same recN)))) (sRet (ofV (fC (.bool false)))) (sNx)) (sSeq (sSet 9 (fCallW 1 1 (lCons (fC (.int 5)) (lNil)) F__law_next)) (sSeq (sSet 10 (fLc [6] (itV (fName 4)) (gN 6) (tB1 (f2 (toO (fN (aCons (toO (f2 (fSlot 5) (fSlot 6) dIxA)) (aNil)) dLenSet)) (fSlot 9) (isI iLe))) (fName 6))) (sSeq (sIf (tNotF (tB1 (fCall 2 (lCons (toV (fCall 2 (lCons (fName 3) (lCons (fName 9) (lNil))) F_few_values)) (lCons (toV (fN (aCons (toO (fLc [6] (itV (fName 10)) (gN 6) (tTrue) (fTup (lCons (fName 6) (lCons (toV (fN (aCons (toO (fN (aCons (toO (f2 (fSlot 5) (fSlot 6) dIxA)) (aNil)) dSortSetK)) (aNil)) dTuple)) (lNil)))))) (aNil)) dDict)) (lNil))) F__law_same_dict))) (sRet (ofV (fC (.bool false)))) (sNx)) (sSeq (sSet 11 (fLst (lNil))) (sSeq (sFor (itV (fName 4)) (gN 12) (sFor (itV (toV (fLc [14] (itV (fName 4)) (gN 14) (tB1 (f2 (fSlot 14) (fSlot 12) (dNe))) (fName 14)))) (gN 13) (sSeq (sSet 15 (fN (aCons (toO (fLc [7] (itV (fName 3)) (gN 7) (tTrue) (toV (f2 (toO (f2 (fSlot 7) (fSlot 13) dIxA)) (toO (f2 (fSlot 7) (fSlot 12) dIxA)) (isI iSub))))) (aNil)) dSortSetK)) (sIf (tB1 (f2 (toO (f2 (fSlot 15) (svO (fC (.int 0))) dIxA)) (svO (fC (.int 0))) (isI iGt))) (sExpr (fMut 11 isLst (lCons (fTup (lCons (fName 12) (lCons (fC (.str "less")) (lCons (fName 13) (lNil))))) (lNil)) mAppend)) (sIf (tB1 (f2 (fSlot 15) (toO (fLst (lCons (fC (.int 0)) (lNil)))) (dEq))) (sSet 11 (f2 (fSlot 11) (toO (fIf (tB1 (f2 (fSlot 12) (fSlot 13) (dLtS))) (fLst (lCons (fTup (lCons (fName 12) (lCons (fC (.str "same")) (lCons (fName 13) (lNil))))) (lNil))) (fLst (lNil)))) (dAdd))) (sIf (tB1 (f2 (toO (f2 (fSlot 15) (svO (fC (.int 0))) dIxA)) (svO (fC (.int 0))) (dEq))) (sExpr (fMut 11 isLst (lCons (fTup (lCons (fName 12) (lCons (fC (.str "most")) (lCons (fName 13) (lNil))))) (lNil)) mAppend)) (sNx))))))) (sSeq (sIf (tNotF (tB1 (fCall 2 (lCons (toV (fCall 1 (lCons (fName 3) (lNil)) F_orders)) (lCons (toV (fN (aCons (toO (fN (aCons (fSlot 11) (aNil)) dSort)) (aNil)) dTuple)) (lNil))) (F__law_same recN)))) (sRet (ofV (fC (.bool false)))) (sNx)) (sSeq (sSet 16 (fun en => some (.dict [], true, en))) (sSeq (sFor (itV (fName 4)) (gN 6) (sSeq (sSet 17 (fLc [18] (itR (aCons (svO (fC (.int 2))) (aCons (svO (fC (.int 40))) (aNil))) range2D) (gN 18) (tB1 (f2 (toO (fN (aCons (toO (fLc [19] (itV (toV (f2 (fSlot 5) (fSlot 6) dIxA))) (gN 19) (tTrue) (toV (f2 (fSlot 19) (toO (f2 (toO (f2 (fSlot 19) (fSlot 18) (isI iDiv))) (fSlot 18) (isI iMul))) (isI iSub))))) (aNil)) dLenSet)) (svO (fC (.int 1))) (dEq))) (fName 18))) (sIf (tAndF (tB1 (f2 (fSlot 6) (fSlot 8) (dNotIn))) (tB1 (f2 (fSlot 17) (toO (fLst (lNil))) (dNe)))) (sSeq (sSet 18 (fN (aCons (fSlot 17) (aNil)) (dPick PySem.W.maxD))) (sAsg (fTup (lCons (fName 18) (lCons (toV (f2 (toO (f2 (toO (f2 (fSlot 5) (fSlot 6) dIxA)) (svO (fC (.int 0))) dIxA)) (toO (f2 (toO (f2 (toO (f2 (toO (f2 (fSlot 5) (fSlot 6) dIxA)) (svO (fC (.int 0))) dIxA)) (fSlot 18) (isI iDiv))) (fSlot 18) (isI iMul))) (isI iSub))) (lNil)))) (gSubD 16 (fName 6)))) (sNx)))) (sSeq (sIf (tNotF (tB1 (fCallL 2 (aCons (toO (fCall 1 (lCons (fName 3) (lNil)) F_rests)) (aCons (fSlot 16) (aNil))) F__law_same_dict))) (sRet (ofV (fC (.bool false)))) (sNx)) (sSeq (sSet 20 (fLst (lCons (fName 3) (lCons (toV (f2 (fSlot 3) (svO (fC (.int 0))) dIxA)) (lCons (fTup (lNil)) (lCons (fC .none) (lCons (toV (fN (aCons (fSlot 3) (aNil)) dList)) (lCons (toV (f2 (fSlot 3) (svO (fTup (lCons (toV (fDisp (lCons (fC (.str "a")) (lCons (fC (.int 1)) (lNil))))) (lNil)))) (dAdd))) (lCons (toV (f2 (fSlot 3) (svO (fTup (lCons (toV (fun en => some (.dict [], true, en))) (lNil)))) (dAdd))) (lCons (toV (f2 (fSlot 3) (svO (fTup (lCons (toV (fN (aCons (toO (fLc [6] (itV (fName 4)) (gN 6) (tTrue) (fTup (lCons (fName 6) (lCons (fC (.bool true)) (lNil)))))) (aNil)) dDict)) (lNil)))) (dAdd))) (lNil))))))))))) (sFor (itV (toV (f2 (fSlot 20) (toO (fLst (lCons (fTup (lCons (toV (fDisp (lCons (fC (.str "A")) (lCons (fC (.int 1)) (lNil))))) (lNil))) (lCons (fTup (lCons (toV (fDisp (lCons (fC (.str "a")) (lCons (fC (.str "1")) (lNil))))) (lNil))) (lCons (fTup (lCons (toV (fun en => some (.dict [], true, en))) (lNil))) (lCons (fTup (lCons (toV (fDisp (lCons (fC (.int 1)) (lCons (fC (.int 1)) (lNil))))) (lNil))) (lCons (fTup (lCons (toV (fDisp (lCons (fC (.str "")) (lCons (fC (.int 0)) (lNil))))) (lNil))) (lCons (toV (fSl (fSlot 3) (pNone) (pInt (svO (fC (.int 1)))) dSl)) (lNil))))))))) (dAdd)))) (gN 21) (sIf (tNotF (tB1 (fCall 2 (lCons (toV (fCall 1 (lCons (fName 21) (lNil)) F_are_samples)) (lCons (toV (fCall 1 (lCons (fName 21) (lNil)) F__law_are)) (lNil))) F__law_says))) (sRet (ofV (fC (.bool false)))) (sNx))))))))))))))))))))) (sRet (ofV (fC (.bool true)))))
def F_law : List D → Option (D × Bool) := mk0 22 b_law
theorem sc_law : FnScope ["script", "w", "turn", "samples", "names", "told", "name", "one", "still", "most", "few", "rows", "a", "b", "own", "gaps", "due", "able", "n", "number", "values", "value"] ["script"] (defScope s_law) := ⟨rfl, rfl, rfl, by decide +kernel, rfl, by decide +kernel, by decide +kernel⟩
theorem fn_law {P : Program} {w : World} {K : PySem.W.Frag} {mg : Str → Option Value} {base : Heap} {f : Addr} {fd : FuncData} (M : Mg mg) (F : FunD K "law" "law" (defArgs s_law) (defBody s_law) (defScope s_law) [] [] f fd) (c__law_draws : Ow P w K mg base 1 "_law_draws" ["script", "many"] (sp0 K 2 F__law_draws)) (c__law_samples : Ow P w K mg base 2 "_law_samples" ["w"] (spW K 0 F__law_samples)) (c__law_same_dict : Ow P w K mg base 22 "_law_same_dict" ["seen", "due"] (sp0 K 2 F__law_same_dict)) (c_constants : Ow P w K mg base 1 "constants" ["samples"] (sp0 K 1 F_constants)) (c_ranges : Ow P w K mg base 1 "ranges" ["samples"] (sp0 K 1 F_ranges)) (c__law_same : Ow P w K mg base 21 "_law_same" ["seen", "due"] (sp0 K 2 (F__law_same recN))) (c_never_zero : Ow P w K mg base 1 "never_zero" ["samples"] (sp0 K 1 F_never_zero)) (c__law_next : Ow P w K mg base 1 "_law_next" ["w", "many"] (spW K 1 F__law_next)) (c_few_values : Ow P w K mg base 1 "few_values" ["samples", "most"] (sp0 K 2 F_few_values)) (c_orders : Ow P w K mg base 1 "orders" ["samples"] (sp0 K 1 F_orders)) (c_rests : Ow P w K mg base 2 "rests" ["samples"] (sp0 K 1 F_rests)) (c__law_says : Ow P w K mg base 1 "_law_says" ["seen", "due"] (sp0 K 2 F__law_says)) (c_are_samples : Ow P w K mg base 2 "are_samples" ["thing"] (sp0 K 1 F_are_samples)) (c__law_are : Ow P w K mg base 2 "_law_are" ["thing"] (sp0 K 1 F__law_are)) : FnOk P w K mg base CX0 23 f fd ["script"] (sp0 K 1 F_law) := by
  have hN := sc_law.nd
  refine ok_def0 F sc_law fun cdv A outer s H E hr => ?_
  have hc : (cxOf CX0 P w K mg base ["script", "w", "turn", "samples", "names", "told", "name", "one", "still", "most", "few", "rows", "a", "b", "own", "gaps", "due", "able", "n", "number", "values", "value"] "law" (defScope s_law) f cdv A outer s H E).nox.calm = true := rfl
  exact (fs_cons (fs_set (i := 1) hN (fe_disp (pps_cons fv_str (fv_e (fe_callO c__law_draws hr (fl_cons (fv_name (pv 0)) (fl_cons fv_int fl_nil)) (by first | decide | omega | (simp only [Nat.add_eq]; omega)))) (pps_cons fv_str fv_int pps_nil)) (fps_cons (fps_cons fps_nil)))) (fs_cons (fs_for PassesOwn.never hc (fi_range1 M.range (fa_cons (fo_v fv_int) fa_nil)) (fg_name hN) (fs_cons (fs_set (i := 3) hN (fe_callWO c__law_samples hr (pv 1) fl_nil (by first | decide | omega | (simp only [Nat.add_eq]; omega)))) (fs_cons (fs_set (i := 4) hN (fe_callB on_sort (cr_sortG hc hr.u64) M.sorted (fa_cons (fo_e (fe_ix o2_ixA (ix_A hr.u1) (fo_name (pv 3)) (fo_v fv_int) (fun _ _ => rfl))) fa_nil))) (fs_cons (fs_set (i := 5) hN (fe_callTy on_dict (cr_dictOf hc) M.dict (fa_cons (fo_e (fe_lc (own := [("name", 6)]) hc hN (fi_val (fv_name (pv 4))) (blkOf (by kernel_rfl)) (by decide) (fun _ _ _ _ _ => (fg_name hN)) (fun _ _ _ _ _ => ft_none) (fun _ _ _ _ _ => (fv_tup (fl_cons (fv_name (pv 6)) (fl_cons (fv_e (fe_lc (own := [("one", 7)]) hc hN (fi_val (fv_name (pv 3))) (blkOf (by kernel_rfl)) (by decide) (fun _ _ _ _ _ => (fg_name hN)) (fun _ _ _ _ _ => ft_none) (fun _ _ _ _ _ => (fv_e (fe_ix o2_ixA (ix_A hr.u1) (fo_name (pv 7)) (fo_name (pv 6)) (fun _ _ => rfl)))))) fl_nil)))))) fa_nil))) (fs_cons (fs_setLc (i := 8) (own := [("name", 6)]) hc hN (fi_val (fv_name (pv 4))) (blkOf (by kernel_rfl)) (by decide) (fun _ _ _ _ _ => (fg_name hN)) (fun _ _ _ _ _ => (ft_one (ft_cmp o2_eq (op_eqD hr.u64) (fo_e (fe_lenSet hc M.len M.set (fa_cons (fo_e (fe_ix o2_ixA (ix_A hr.u1) (fo_name (pv 5)) (fo_name (pv 6)) (fun _ _ => rfl))) fa_nil))) (fo_v fv_int) (nomark _)))) (fun _ _ _ _ _ => (fv_name (pv 6)))) (fs_cons (fs_if (ft_not (ft_val (fe_callO c__law_same_dict hr (fl_cons (fv_e (fe_callO c_constants hr (fl_cons (fv_name (pv 3)) fl_nil) (by first | decide | omega | (simp only [Nat.add_eq]; omega)))) (fl_cons (fv_e (fe_callTy on_dict (cr_dictOf hc) M.dict (fa_cons (fo_e (fe_lc (own := [("name", 6)]) hc hN (fi_val (fv_name (pv 8))) (blkOf (by kernel_rfl)) (by decide) (fun _ _ _ _ _ => (fg_name hN)) (fun _ _ _ _ _ => ft_none) (fun _ _ _ _ _ => (fv_tup (fl_cons (fv_name (pv 6)) (fl_cons (fv_e (fe_ix o2_ixA (ix_A hr.u1) (fo_e (fe_ix o2_ixA (ix_A hr.u1) (fo_name (pv 5)) (fo_name (pv 6)) (fun _ _ => rfl))) (fo_v fv_int) (fun _ _ => rfl))) fl_nil)))))) fa_nil))) fl_nil)) (by first | decide | omega | (simp only [Nat.add_eq]; omega))))) (fs_one (fs_ret (fe_v fv_bl))) fs_nil) (fs_cons (fs_if (ft_not (ft_val (fe_callO c__law_same_dict hr (fl_cons (fv_e (fe_callO c_ranges hr (fl_cons (fv_name (pv 3)) fl_nil) (by first | decide | omega | (simp only [Nat.add_eq]; omega)))) (fl_cons (fv_e (fe_callTy on_dict (cr_dictOf hc) M.dict (fa_cons (fo_e (fe_lc (own := [("name", 6)]) hc hN (fi_val (fv_name (pv 4))) (blkOf (by kernel_rfl)) (by decide) (fun _ _ _ _ _ => (fg_name hN)) (fun _ _ _ _ _ => ft_none) (fun _ _ _ _ _ => (fv_tup (fl_cons (fv_name (pv 6)) (fl_cons (fv_tup (fl_cons (fv_e (fe_callB (on_pick hr.u64 PySem.W.minD) (cr_minD hc) M.min (fa_cons (fo_e (fe_ix o2_ixA (ix_A hr.u1) (fo_name (pv 5)) (fo_name (pv 6)) (fun _ _ => rfl))) fa_nil))) (fl_cons (fv_e (fe_callB (on_pick hr.u64 PySem.W.maxD) (cr_maxD hc) M.max (fa_cons (fo_e (fe_ix o2_ixA (ix_A hr.u1) (fo_name (pv 5)) (fo_name (pv 6)) (fun _ _ => rfl))) fa_nil))) fl_nil))) fl_nil)))))) fa_nil))) fl_nil)) (by first | decide | omega | (simp only [Nat.add_eq]; omega))))) (fs_one (fs_ret (fe_v fv_bl))) fs_nil) (fs_cons (fs_if (ft_not (ft_val (fe_callO c__law_same hr (fl_cons (fv_e (fe_callO c_never_zero hr (fl_cons (fv_name (pv 3)) fl_nil) (by first | decide | omega | (simp only [Nat.add_eq]; omega)))) (fl_cons (fv_e (fe_callTy on_tuple cr_tupOf M.tuple (fa_cons (fo_e (fe_lc (own := [("name", 6)]) hc hN (fi_val (fv_name (pv 4))) (blkOf (by kernel_rfl)) (by decide) (fun _ _ _ _ _ => (fg_name hN)) (fun _ _ _ _ _ => (ft_one (ft_cmp o2_notIn (op_notInA hr.u65) (fo_v fv_int) (fo_e (fe_ix o2_ixA (ix_A hr.u1) (fo_name (pv 5)) (fo_name (pv 6)) (fun _ _ => rfl))) (by rfl)))) (fun _ _ _ _ _ => (fv_name (pv 6))))) fa_nil))) fl_nil)) (by first | decide | omega | (simp only [Nat.add_eq]; omega))))) (fs_one (fs_ret (fe_v fv_bl))) fs_nil) (fs_cons (fs_set (i := 9) hN (fe_callWO c__law_next hr (pv 1) (fl_cons fv_int fl_nil) (by first | decide | omega | (simp only [Nat.add_eq]; omega)))) (fs_cons (fs_setLc (i := 10) (own := [("name", 6)]) hc hN (fi_val (fv_name (pv 4))) (blkOf (by kernel_rfl)) (by decide) (fun _ _ _ _ _ => (fg_name hN)) (fun _ _ _ _ _ => (ft_one (ft_cmp o2_leI op_le (fo_e (fe_lenSet hc M.len M.set (fa_cons (fo_e (fe_ix o2_ixA (ix_A hr.u1) (fo_name (pv 5)) (fo_name (pv 6)) (fun _ _ => rfl))) fa_nil))) (fo_name (pv 9)) (nomark _)))) (fun _ _ _ _ _ => (fv_name (pv 6)))) (fs_cons (fs_if (ft_not (ft_val (fe_callO c__law_same_dict hr (fl_cons (fv_e (fe_callO c_few_values hr (fl_cons (fv_name (pv 3)) (fl_cons (fv_name (pv 9)) fl_nil)) (by first | decide | omega | (simp only [Nat.add_eq]; omega)))) (fl_cons (fv_e (fe_callTy on_dict (cr_dictOf hc) M.dict (fa_cons (fo_e (fe_lc (own := [("name", 6)]) hc hN (fi_val (fv_name (pv 10))) (blkOf (by kernel_rfl)) (by decide) (fun _ _ _ _ _ => (fg_name hN)) (fun _ _ _ _ _ => ft_none) (fun _ _ _ _ _ => (fv_tup (fl_cons (fv_name (pv 6)) (fl_cons (fv_e (fe_callTy on_tuple cr_tupOf M.tuple (fa_cons (fo_e (fe_sortSetK hc hr.u64 M.sorted M.set (fa_cons (fo_e (fe_ix o2_ixA (ix_A hr.u1) (fo_name (pv 5)) (fo_name (pv 6)) (fun _ _ => rfl))) fa_nil))) fa_nil))) fl_nil)))))) fa_nil))) fl_nil)) (by first | decide | omega | (simp only [Nat.add_eq]; omega))))) (fs_one (fs_ret (fe_v fv_bl))) fs_nil) (fs_cons (fs_set (i := 11) hN (fe_lst fl_nil)) (fs_cons (fs_for PassesOwn.never hc (fi_val (fv_name (pv 4))) (fg_name hN) (fs_one (fs_for PassesOwn.never hc (fi_val (fv_e (fe_lc (own := [("own", 14)]) hc hN (fi_val (fv_name (pv 4))) (blkOf (by kernel_rfl)) (by decide) (fun _ _ _ _ _ => (fg_name hN)) (fun _ _ _ _ _ => (ft_one (ft_cmp o2_ne (op_neD hr.u64) (fo_name (pv 14)) (fo_name (pv 12)) (nomark _)))) (fun _ _ _ _ _ => (fv_name (pv 14)))))) (fg_name hN) (fs_cons (fs_set (i := 15) hN (fe_sortSetK hc hr.u64 M.sorted M.set (fa_cons (fo_e (fe_lc (own := [("one", 7)]) hc hN (fi_val (fv_name (pv 3))) (blkOf (by kernel_rfl)) (by decide) (fun _ _ _ _ _ => (fg_name hN)) (fun _ _ _ _ _ => ft_none) (fun _ _ _ _ _ => (fv_e (fe_op o2_sub op_sub (fo_e (fe_ix o2_ixA (ix_A hr.u1) (fo_name (pv 7)) (fo_name (pv 13)) (fun _ _ => rfl))) (fo_e (fe_ix o2_ixA (ix_A hr.u1) (fo_name (pv 7)) (fo_name (pv 12)) (fun _ _ => rfl)))))))) fa_nil))) (fs_one (fs_if (ft_cmp o2_gtI op_gt (fo_e (fe_ix o2_ixA (ix_A hr.u1) (fo_name (pv 15)) (fo_v fv_int) (fun _ _ => rfl))) (fo_v fv_int) (nomark _)) (fs_one (fs_expr (fe_mut (kindL _) om_append PySem.F.plainAttrs_list PySem.F.slot_list_append PySem.type_list_append mt_append (pv 11) (fl_cons (fv_tup (fl_cons (fv_name (pv 12)) (fl_cons fv_str (fl_cons (fv_name (pv 13)) fl_nil)))) fl_nil)))) (fs_one (fs_if (ft_cmp o2_eq (op_eqD hr.u64) (fo_name (pv 15)) (fo_e (fe_lst (fl_cons fv_int fl_nil))) (nomark _)) (fs_one (fs_set (i := 11) hN (fe_op o2_add op_addD (fo_name (pv 11)) (fo_e (fe_if (ft_cmp o2_ltS op_lt_str (fo_name (pv 12)) (fo_name (pv 13)) (nomark _)) (fe_lst (fl_cons (fv_tup (fl_cons (fv_name (pv 12)) (fl_cons fv_str (fl_cons (fv_name (pv 13)) fl_nil)))) fl_nil)) (fe_lst fl_nil)))))) (fs_one (fs_if (ft_cmp o2_eq (op_eqD hr.u64) (fo_e (fe_ix o2_ixA (ix_A hr.u1) (fo_name (pv 15)) (fo_v fv_int) (fun _ _ => rfl))) (fo_v fv_int) (nomark _)) (fs_one (fs_expr (fe_mut (kindL _) om_append PySem.F.plainAttrs_list PySem.F.slot_list_append PySem.type_list_append mt_append (pv 11) (fl_cons (fv_tup (fl_cons (fv_name (pv 12)) (fl_cons fv_str (fl_cons (fv_name (pv 13)) fl_nil)))) fl_nil)))) fs_nil)))))))))) (fs_cons (fs_if (ft_not (ft_val (fe_callO c__law_same hr (fl_cons (fv_e (fe_callO c_orders hr (fl_cons (fv_name (pv 3)) fl_nil) (by first | decide | omega | (simp only [Nat.add_eq]; omega)))) (fl_cons (fv_e (fe_callTy on_tuple cr_tupOf M.tuple (fa_cons (fo_e (fe_callB on_sort (cr_sortG hc hr.u64) M.sorted (fa_cons (fo_name (pv 11)) fa_nil))) fa_nil))) fl_nil)) (by first | decide | omega | (simp only [Nat.add_eq]; omega))))) (fs_one (fs_ret (fe_v fv_bl))) fs_nil) (fs_cons (fs_set (i := 16) hN fe_dnew) (fs_cons (fs_for PassesOwn.never hc (fi_val (fv_name (pv 4))) (fg_name hN) (fs_cons (fs_setLc (i := 17) (own := [("n", 18)]) hc hN (fi_range2 M.range (fa_cons (fo_v fv_int) (fa_cons (fo_v fv_int) fa_nil))) (blkOf (by kernel_rfl)) (by decide) (fun _ _ _ _ _ => (fg_name hN)) (fun _ _ _ _ _ => (ft_one (ft_cmp o2_eq (op_eqD hr.u64) (fo_e (fe_lenSet hc M.len M.set (fa_cons (fo_e (fe_lc (own := [("number", 19)]) hc hN (fi_val (fv_e (fe_ix o2_ixA (ix_A hr.u1) (fo_name (pv 5)) (fo_name (pv 6)) (fun _ _ => rfl)))) (blkOf (by kernel_rfl)) (by decide) (fun _ _ _ _ _ => (fg_name hN)) (fun _ _ _ _ _ => ft_none) (fun _ _ _ _ _ => (fv_e (fe_op o2_sub op_sub (fo_name (pv 19)) (fo_e (fe_op o2_mulI op_mul (fo_e (fe_op o2_div op_fdiv (fo_name (pv 19)) (fo_name (pv 18)))) (fo_name (pv 18))))))))) fa_nil))) (fo_v fv_int) (nomark _)))) (fun _ _ _ _ _ => (fv_name (pv 18)))) (fs_one (fs_if (PW.pt (fw_and (ft_cmp o2_notIn (op_notInA hr.u65) (fo_name (pv 6)) (fo_name (pv 8)) (by rfl)) (fw_and1 (ft_cmp o2_ne (op_neD hr.u64) (fo_name (pv 17)) (fo_e (fe_lst fl_nil)) (nomark _))))) (fs_cons (fs_set (i := 18) hN (fe_callB (on_pick hr.u64 PySem.W.maxD) (cr_maxD hc) M.max (fa_cons (fo_name (pv 17)) fa_nil))) (fs_one (fs_asg (fv_tup (fl_cons (fv_name (pv 18)) (fl_cons (fv_e (fe_op o2_sub op_sub (fo_e (fe_ix o2_ixA (ix_A hr.u1) (fo_e (fe_ix o2_ixA (ix_A hr.u1) (fo_name (pv 5)) (fo_name (pv 6)) (fun _ _ => rfl))) (fo_v fv_int) (fun _ _ => rfl))) (fo_e (fe_op o2_mulI op_mul (fo_e (fe_op o2_div op_fdiv (fo_e (fe_ix o2_ixA (ix_A hr.u1) (fo_e (fe_ix o2_ixA (ix_A hr.u1) (fo_name (pv 5)) (fo_name (pv 6)) (fun _ _ => rfl))) (fo_v fv_int) (fun _ _ => rfl))) (fo_name (pv 18)))) (fo_name (pv 18)))))) fl_nil))) (fg_sub hr.u1 (pv 16) (fv_name (pv 6)))))) fs_nil)))) (fs_cons (fs_if (ft_not (ft_val (fe_callLt c__law_same_dict hr (fa_cons (fo_e (fe_callO c_rests hr (fl_cons (fv_name (pv 3)) fl_nil) (by first | decide | omega | (simp only [Nat.add_eq]; omega)))) (fa_cons (fo_name (pv 16)) fa_nil)) (by first | decide | omega | (simp only [Nat.add_eq]; omega))))) (fs_one (fs_ret (fe_v fv_bl))) fs_nil) (fs_cons (fs_set (i := 20) hN (fe_lst (fl_cons (fv_name (pv 3)) (fl_cons (fv_e (fe_ix o2_ixA (ix_A hr.u1) (fo_name (pv 3)) (fo_v fv_int) (fun _ _ => rfl))) (fl_cons (fv_tup fl_nil) (fl_cons fv_non (fl_cons (fv_e (fe_callTy on_list call_list_of M.list (fa_cons (fo_name (pv 3)) fa_nil))) (fl_cons (fv_e (fe_op o2_add op_addD (fo_name (pv 3)) (fo_v (fv_tup (fl_cons (fv_e (fe_disp (pps_cons fv_str fv_int pps_nil) (fps_cons fps_nil))) fl_nil))))) (fl_cons (fv_e (fe_op o2_add op_addD (fo_name (pv 3)) (fo_v (fv_tup (fl_cons (fv_e fe_dnew) fl_nil))))) (fl_cons (fv_e (fe_op o2_add op_addD (fo_name (pv 3)) (fo_v (fv_tup (fl_cons (fv_e (fe_callTy on_dict (cr_dictOf hc) M.dict (fa_cons (fo_e (fe_lc (own := [("name", 6)]) hc hN (fi_val (fv_name (pv 4))) (blkOf (by kernel_rfl)) (by decide) (fun _ _ _ _ _ => (fg_name hN)) (fun _ _ _ _ _ => ft_none) (fun _ _ _ _ _ => (fv_tup (fl_cons (fv_name (pv 6)) (fl_cons fv_bl fl_nil)))))) fa_nil))) fl_nil))))) fl_nil)))))))))) (fs_one (fs_for PassesOwn.never hc (fi_val (fv_e (fe_op o2_add op_addD (fo_name (pv 20)) (fo_e (fe_lst (fl_cons (fv_tup (fl_cons (fv_e (fe_disp (pps_cons fv_str fv_int pps_nil) (fps_cons fps_nil))) fl_nil)) (fl_cons (fv_tup (fl_cons (fv_e (fe_disp (pps_cons fv_str fv_str pps_nil) (fps_cons fps_nil))) fl_nil)) (fl_cons (fv_tup (fl_cons (fv_e fe_dnew) fl_nil)) (fl_cons (fv_tup (fl_cons (fv_e (fe_disp (pps_cons fv_int fv_int pps_nil) (fps_cons fps_nil))) fl_nil)) (fl_cons (fv_tup (fl_cons (fv_e (fe_disp (pps_cons fv_str fv_int pps_nil) (fps_cons fps_nil))) fl_nil)) (fl_cons (fv_e (fe_slice os_sl sl_D (fo_name (pv 3)) fp_none (fp_some (fo_v fv_int)))) fl_nil))))))))))) (fg_name hN) (fs_one (fs_if (ft_not (ft_val (fe_callO c__law_says hr (fl_cons (fv_e (fe_callO c_are_samples hr (fl_cons (fv_name (pv 21)) fl_nil) (by first | decide | omega | (simp only [Nat.add_eq]; omega)))) (fl_cons (fv_e (fe_callO c__law_are hr (fl_cons (fv_name (pv 21)) fl_nil) (by first | decide | omega | (simp only [Nat.add_eq]; omega)))) fl_nil)) (by first | decide | omega | (simp only [Nat.add_eq]; omega))))) (fs_one (fs_ret (fe_v fv_bl))) fs_nil)))))))))))))))))))))) (fs_one (fs_ret (fe_v fv_bl)))))
end Hd
/-! Px: plain laws of the functions that the bodies are. -/
namespace Fx
open PySem PySem.Spec L2
/-! ### what a value that is there keeps -/
def Wp {α : Type} (x : Option α) (Q : α → Prop) : Prop := ∃ y, x = some y ∧ Q y
@[simp] theorem wp_some {α : Type} {y : α} {Q : α → Prop} : Wp (some y) Q ↔ Q y := ⟨fun ⟨_, e, q⟩ => by cases e; exact q, fun q => ⟨y, rfl, q⟩⟩
@[simp] theorem wp_none {α : Type} {Q : α → Prop} : Wp (none : Option α) Q ↔ False := ⟨fun ⟨_, e, _⟩ => (by cases e), False.elim⟩
@[simp] theorem wp_bind {α β : Type} {x : Option α} {f : α → Option β} {Q : β → Prop} : Wp (x.bind f) Q ↔ Wp x fun y => Wp (f y) Q :=
  ⟨fun ⟨z, e, q⟩ => let ⟨y, e1, e2⟩ := Option.bind_eq_some_iff.mp e; ⟨y, e1, z, e2, q⟩, fun ⟨y, e1, z, e2, q⟩ => ⟨z, Option.bind_eq_some_iff.mpr ⟨y, e1, e2⟩, q⟩⟩
@[simp] theorem wp_map {α β : Type} {x : Option α} {f : α → β} {Q : β → Prop} : Wp (x.map f) Q ↔ Wp x fun y => Q (f y) :=
  ⟨fun ⟨z, e, q⟩ => by obtain ⟨y, e1, e2⟩ := Option.map_eq_some_iff.mp e; subst e2; exact ⟨y, e1, q⟩, fun ⟨y, e1, q⟩ => ⟨f y, by rw [e1]; rfl, q⟩⟩
theorem wp_ite {α : Type} {c : Prop} [Decidable c] {x y : Option α} {Q : α → Prop} : Wp (if c then x else y) Q ↔ ((c → Wp x Q) ∧ (¬ c → Wp y Q)) := by
  by_cases h : c
  · rw [if_pos h]; exact ⟨fun q => ⟨fun _ => q, fun n => absurd h n⟩, fun q => q.1 h⟩
  · rw [if_neg h]; exact ⟨fun q => ⟨fun n => absurd n h, fun _ => q⟩, fun q => q.2 h⟩
theorem wp_mono {α : Type} {x : Option α} {Q R : α → Prop} (h : Wp x Q) (k : ∀ y, Q y → R y) : Wp x R := let ⟨y, e, q⟩ := h; ⟨y, e, k y q⟩
theorem for_inv {s : Gv} {b : Sv} (I : List D → En → Prop) {Q : Out × En → Prop}
    (step : ∀ d r en, I (d :: r) en → Wp (s d en) fun e1 => Wp (b e1) fun y => match y.1 with
      | .nx => I r y.2
      | .ct => I r y.2
      | .bk => Q (.nx, y.2)
      | .rt d c => Q (.rt d c, y.2)) (fin : ∀ en, I [] en → Q (.nx, en)) : ∀ (ds : List D) (en : En), I ds en → Wp (forL s b ds en) Q
  | [], en, h => ⟨_, rfl, fin en h⟩
  | d :: ds, en, h => by
    obtain ⟨e1, p1, y, p2, q⟩ := step d ds en h
    have ih := fun en h => for_inv I step fin ds en h
    obtain ⟨o, e2⟩ := y
    refine wp_bind.mpr ⟨e1, p1, wp_bind.mpr ⟨_, p2, ?_⟩⟩
    cases o with
    | nx => exact ih _ q
    | ct => exact ih _ q
    | bk => exact ⟨_, rfl, q⟩
    | rt d c => exact ⟨_, rfl, q⟩
theorem while_inv {t : Tv} {b : Sv} (I : Nat → En → Prop) {Q : Out × En → Prop}
    (step : ∀ n en, I n en → Wp (t en) fun x => if x.1 = true then ∃ m, n = m + 1 ∧ Wp (b x.2) fun y => match y.1 with
      | .nx => I m y.2
      | .ct => I m y.2
      | .bk => Q (.nx, y.2)
      | .rt d c => Q (.rt d c, y.2)
      else Q (.nx, x.2)) : ∀ (n : Nat) (en : En) (f : Nat), I n en → n < f → Wp (whileL t b f en) Q := by
  intro n
  induction n with
  | zero =>
    intro en f h hf
    obtain ⟨f, rfl⟩ : ∃ g, f = g + 1 := ⟨f - 1, by omega⟩
    obtain ⟨x, p1, q⟩ := step 0 en h
    refine wp_bind.mpr ⟨x, p1, ?_⟩
    by_cases hx : x.1 = true
    · rw [if_pos hx] at q
      obtain ⟨m, e, _⟩ := q
      cases e
    · rw [if_neg hx] at q ⊢
      exact ⟨_, rfl, q⟩
  | succ n ih =>
    intro en f h hf
    obtain ⟨f, rfl⟩ : ∃ g, f = g + 1 := ⟨f - 1, by omega⟩
    obtain ⟨x, p1, q⟩ := step (n + 1) en h
    refine wp_bind.mpr ⟨x, p1, ?_⟩
    by_cases hx : x.1 = true
    · rw [if_pos hx] at q ⊢
      obtain ⟨m, e, y, p2, q⟩ := q
      cases e
      refine wp_bind.mpr ⟨y, p2, ?_⟩
      obtain ⟨o, e2⟩ := y
      cases o with
      | nx => exact ih _ f q (by omega)
      | ct => exact ih _ f q (by omega)
      | bk => exact ⟨_, rfl, q⟩
      | rt d c => exact ⟨_, rfl, q⟩
    · rw [if_neg hx] at q ⊢
      exact ⟨_, rfl, q⟩
/-! ### a slot that may hold what it will, but nothing lent -/
def jk (x : Option (D × Bool)) : Option (D × Fl) := x.map fun p => (p.1, flag p.2)
theorem jk_none : (none : Option (D × Fl)) = jk none := rfl
theorem jk_sh (d : D) : (some (d, Fl.sh) : Option (D × Fl)) = jk (some (d, false)) := rfl
theorem jk_own (d : D) : (some (d, Fl.own) : Option (D × Fl)) = jk (some (d, true)) := rfl
theorem free1_jk {en : En} {i : Nat} {x : Option (D × Bool)} (h : en[i]? = some (jk x)) : free1 en i = true := by
  unfold free1
  rw [h]
  cases x with
  | none => rfl
  | some p =>
    obtain ⟨d, b⟩ := p
    cases b <;> rfl
@[simp] theorem free_cons (x : Option (D × Fl)) (en : En) (i : Nat) : free1 (x :: en) (i + 1) = free1 en i := by
  unfold free1
  rw [List.getElem?_cons_succ]
@[simp] theorem free_jk (x : Option (D × Bool)) (en : En) : free1 (jk x :: en) 0 = true := free1_jk (x := x) rfl
@[simp] theorem free_sh (d : D) (en : En) : free1 (some (d, Fl.sh) :: en) 0 = true := rfl
@[simp] theorem free_own (d : D) (en : En) : free1 (some (d, Fl.own) :: en) 0 = true := rfl
@[simp] theorem free_none (en : En) : free1 (none :: en) 0 = true := rfl
@[simp] theorem flag_t : flag true = .own := rfl
@[simp] theorem flag_f : flag false = .sh := rfl
@[simp] theorem e_sNx  (x : Option (D × Fl)) (en : En) : sNx (x :: en) = some (.nx, (x :: en)) := id rfl
theorem e_sSeq (a b : Sv) (x : Option (D × Fl)) (en : En) : sSeq a b (x :: en) = (a (x :: en)).bind fun z => match z.1 with
  | .nx => b z.2
  | o => some (o, z.2) := id rfl
@[simp] theorem e_sExpr (f : Ev) (x : Option (D × Fl)) (en : En) : sExpr f (x :: en) = (f (x :: en)).map fun z => (.nx, z.2.2) := id rfl
@[simp] theorem e_sRet (f : Ev) (x : Option (D × Fl)) (en : En) : sRet f (x :: en) = (f (x :: en)).map fun z => (.rt z.1 z.2.1, z.2.2) := id rfl
@[simp] theorem e_sRetN  (x : Option (D × Fl)) (en : En) : sRetN (x :: en) = some (.rt .none false, (x :: en)) := id rfl
@[simp] theorem e_sBreak  (x : Option (D × Fl)) (en : En) : sBreak (x :: en) = some (.bk, (x :: en)) := id rfl
@[simp] theorem e_sCont  (x : Option (D × Fl)) (en : En) : sCont (x :: en) = some (.ct, (x :: en)) := id rfl
@[simp] theorem e_sIf (t : Tv) (a b : Sv) (x : Option (D × Fl)) (en : En) : sIf t a b (x :: en) = (t (x :: en)).bind fun z => if z.1 = true then a z.2 else b z.2 := id rfl
@[simp] theorem e_sSet (i : Nat) (f : Ev) (x : Option (D × Fl)) (en : En) : sSet i f (x :: en) = (f (x :: en)).bind fun z => if free1 z.2.2 i = true then some (.nx, z.2.2.set i (some (z.1, flag z.2.1))) else none := id rfl
@[simp] theorem e_sAsg (f : Vv) (s : Gv) (x : Option (D × Fl)) (en : En) : sAsg f s (x :: en) = (f (x :: en)).bind fun z => (s z.1 z.2).map fun e' => (.nx, e') := id rfl
theorem e_sFor (it : Lv) (s : Gv) (b : Sv) (x : Option (D × Fl)) (en : En) : sFor it s b (x :: en) = (it (x :: en)).bind fun z => forL s b z.1 z.2 := id rfl
@[simp] theorem e_sParN (is : List Nat) (l : Mv) (x : Option (D × Fl)) (en : En) : sParN is l (x :: en) = (l (x :: en)).bind fun z => (putAll is z.1 z.2).map fun e' => (.nx, e') := id rfl
@[simp] theorem e_f1 (p : Ov) (g : D → Option (D × Bool)) (x : Option (D × Fl)) (en : En) : f1 p g (x :: en) = (p (x :: en)).bind fun z => (z.1.late z.2).bind fun d => (g d).map fun y => (y.1, y.2, z.2) := id rfl
@[simp] theorem e_f2 (p q : Ov) (g : D → D → Option (D × Bool)) (x : Option (D × Fl)) (en : En) : f2 p q g (x :: en) = (p (x :: en)).bind fun z => (q z.2).bind fun y => (z.1.late y.2).bind fun d => (y.1.late y.2).bind fun e => (g d e).map fun w => (w.1, w.2, y.2) := id rfl
@[simp] theorem e_fN (a : Av) (g : List D → Option (D × Bool)) (x : Option (D × Fl)) (en : En) : fN a g (x :: en) = (a (x :: en)).bind fun z => (lates z.2 z.1).bind fun ds => (g ds).map fun w => (w.1, w.2, z.2) := id rfl
@[simp] theorem e_fC (d : D) (x : Option (D × Fl)) (en : En) : fC d (x :: en) = some (d, (x :: en)) := id rfl
@[simp] theorem e_toV (f : Ev) (x : Option (D × Fl)) (en : En) : toV f (x :: en) = (f (x :: en)).map fun z => (z.1, z.2.2) := by
  cases h : f (x :: en) <;> simp [toV, h]
@[simp] theorem e_ofV (f : Vv) (x : Option (D × Fl)) (en : En) : ofV f (x :: en) = (f (x :: en)).map fun z => (z.1, false, z.2) := by
  cases h : f (x :: en) <;> simp [ofV, h]
@[simp] theorem e_toO (f : Ev) (x : Option (D × Fl)) (en : En) : toO f (x :: en) = (f (x :: en)).map fun z => (.tv z.1, z.2.2) := by
  cases h : f (x :: en) <;> simp [toO, h]
@[simp] theorem e_svO (f : Vv) (x : Option (D × Fl)) (en : En) : svO f (x :: en) = (f (x :: en)).map fun z => (.sv z.1, z.2) := by
  cases h : f (x :: en) <;> simp [svO, h]
@[simp] theorem e_fName (i : Nat) (x : Option (D × Fl)) (en : En) : fName i (x :: en) = match (x :: en)[i]? with
  | some (some (d, .sh)) => some (d, (x :: en))
  | some (some (d, .own)) => some (d, (x :: en).set i (some (d, .sh)))
  | _ => none := id rfl
@[simp] theorem e_fSlot (i : Nat) (x : Option (D × Fl)) (en : En) : fSlot i (x :: en) = (peek (x :: en) i).map fun _ => (.slot i, (x :: en)) := by
  unfold fSlot
  cases h : peek (x :: en) i <;> simp
@[simp] theorem e_aNil  (x : Option (D × Fl)) (en : En) : aNil (x :: en) = some ([], (x :: en)) := id rfl
@[simp] theorem e_aCons (p : Ov) (r : Av) (x : Option (D × Fl)) (en : En) : aCons p r (x :: en) = (p (x :: en)).bind fun z => (r z.2).map fun y => (z.1 :: y.1, y.2) := by
  unfold aCons
  cases h : p (x :: en) with
  | none => rfl
  | some z =>
    obtain ⟨z1, z2⟩ := z
    cases h2 : r z2 <;> simp [h2]
@[simp] theorem e_lNil  (x : Option (D × Fl)) (en : En) : lNil (x :: en) = some ([], (x :: en)) := id rfl
@[simp] theorem e_lCons (p : Vv) (r : Lv) (x : Option (D × Fl)) (en : En) : lCons p r (x :: en) = (p (x :: en)).bind fun z => (r z.2).map fun y => (z.1 :: y.1, y.2) := by
  unfold lCons
  cases h : p (x :: en) with
  | none => rfl
  | some z =>
    obtain ⟨z1, z2⟩ := z
    cases h2 : r z2 <;> simp [h2]
@[simp] theorem e_mNil  (x : Option (D × Fl)) (en : En) : mNil (x :: en) = some ([], (x :: en)) := id rfl
@[simp] theorem e_mCons (p : Ev) (r : Mv) (x : Option (D × Fl)) (en : En) : mCons p r (x :: en) = (p (x :: en)).bind fun z => (r z.2.2).map fun y => ((z.1, z.2.1) :: y.1, y.2) := id rfl
@[simp] theorem e_fTup (l : Lv) (x : Option (D × Fl)) (en : En) : fTup l (x :: en) = (l (x :: en)).bind fun z => if z.1.length ≤ sizeLine then some (.tuple z.1, z.2) else none := by
  cases h : l (x :: en) <;> simp [fTup, h]
@[simp] theorem e_fLst (l : Lv) (x : Option (D × Fl)) (en : En) : fLst l (x :: en) = (l (x :: en)).bind fun z => if z.1.length ≤ sizeLine then some (.list z.1, true, z.2) else none := by
  cases h : l (x :: en) <;> simp [fLst, h]
@[simp] theorem e_fDisp (l : Lv) (x : Option (D × Fl)) (en : En) : fDisp l (x :: en) = (l (x :: en)).bind fun z => (pairsFlat z.1).bind fun ks => if ks.length ≤ 15 then some (.dict (mergeD [] ks), true, z.2) else none := id rfl
@[simp] theorem e_fIs (p : Ov) (g : D → Bool) (x : Option (D × Fl)) (en : En) : fIs p g (x :: en) = f1 p (fun d => some (.bool (g d), false)) (x :: en) := id rfl
@[simp] theorem e_fIsi (p : Ov) (T : String) (x : Option (D × Fl)) (en : En) : fIsi p T (x :: en) = f1 p (fun d => (kitB (tyD d) T).map fun b => (.bool b, false)) (x :: en) := id rfl
@[simp] theorem e_fAnd (f g : Ev) (x : Option (D × Fl)) (en : En) : fAnd f g (x :: en) = (f (x :: en)).bind fun z => match z.1 with
  | .bool c => if c = true then g z.2.2 else some (.bool false, false, z.2.2)
  | _ => none := id rfl
@[simp] theorem e_fOr (f g : Ev) (x : Option (D × Fl)) (en : En) : fOr f g (x :: en) = (f (x :: en)).bind fun z => match z.1 with
  | .bool c => if c = true then some (.bool true, false, z.2.2) else g z.2.2
  | _ => none := id rfl
@[simp] theorem e_fNot (f : Ev) (x : Option (D × Fl)) (en : En) : fNot f (x :: en) = (f (x :: en)).bind fun z => match z.1 with
  | .bool c => some (.bool (!c), false, z.2.2)
  | _ => none := id rfl
@[simp] theorem e_fIf (t : Tv) (f g : Ev) (x : Option (D × Fl)) (en : En) : fIf t f g (x :: en) = (t (x :: en)).bind fun z => if z.1 = true then f z.2 else g z.2 := id rfl
@[simp] theorem e_tB1 (f : Ev) (x : Option (D × Fl)) (en : En) : tB1 f (x :: en) = (f (x :: en)).bind fun z => match z.1 with
  | .bool b => some (b, z.2.2)
  | _ => none := id rfl
@[simp] theorem e_tNotF (f : Tv) (x : Option (D × Fl)) (en : En) : tNotF f (x :: en) = (f (x :: en)).map fun z => (!z.1, z.2) := id rfl
@[simp] theorem e_tAndF (f g : Tv) (x : Option (D × Fl)) (en : En) : tAndF f g (x :: en) = (f (x :: en)).bind fun z => if z.1 = true then g z.2 else some (false, z.2) := id rfl
@[simp] theorem e_tOrF (f g : Tv) (x : Option (D × Fl)) (en : En) : tOrF f g (x :: en) = (f (x :: en)).bind fun z => if z.1 = true then some (true, z.2) else g z.2 := id rfl
@[simp] theorem e_tIfF (c f g : Tv) (x : Option (D × Fl)) (en : En) : tIfF c f g (x :: en) = (c (x :: en)).bind fun z => if z.1 = true then f z.2 else g z.2 := id rfl
@[simp] theorem e_tTrue  (x : Option (D × Fl)) (en : En) : tTrue (x :: en) = some (true, (x :: en)) := id rfl
theorem e_itV (f : Vv) (x : Option (D × Fl)) (en : En) : itV f (x :: en) = (f (x :: en)).bind fun z => (seqD z.1).map fun ds => (ds, z.2) := id rfl
theorem e_itR (a : Av) (g : List D → Option (List D)) (x : Option (D × Fl)) (en : En) : itR a g (x :: en) = (a (x :: en)).bind fun z => (lates z.2 z.1).bind fun ds => (g ds).map fun r => (r, z.2) := id rfl
@[simp] theorem e_fCall (np : Nat) (l : Lv) (F : List D → Option (D × Bool)) (x : Option (D × Fl)) (en : En) : fCall np l F (x :: en) = (l (x :: en)).bind fun z => if z.1.length = np then (F z.1).map fun y => (y.1, y.2, z.2) else none := id rfl
@[simp] theorem e_gN (i : Nat) (d : D) (x : Option (D × Fl)) (en : En) : gN i d (x :: en) = if free1 (x :: en) i = true then some ((x :: en).set i (some (d, .sh))) else none := id rfl
@[simp] theorem e_pNone  (x : Option (D × Fl)) (en : En) : pNone (x :: en) = some (none, (x :: en)) := id rfl
@[simp] theorem e_pInt (p : Ov) (x : Option (D × Fl)) (en : En) : pInt p (x :: en) = (p (x :: en)).bind fun z => (z.1.late z.2).bind fun d => match d with
  | .int i => some (some i, z.2)
  | _ => none := id rfl
@[simp] theorem e_fSl (p : Ov) (l h : Pv) (g : D → Option Int → Option Int → Option (D × Bool)) (x : Option (D × Fl)) (en : En) : fSl p l h g (x :: en) = (p (x :: en)).bind fun z => (l z.2).bind fun y => (h y.2).bind fun w => (z.1.late w.2).bind fun d => (g d y.1 w.1).map fun u => (u.1, u.2, w.2) := id rfl
@[simp] theorem e_fLr1 (f : Vv) (x : Option (D × Fl)) (en : En) : fLr1 f (x :: en) = (f (x :: en)).bind fun z => match z.1 with
  | .int j => if rgOk 0 j = true then some (.list (rgD 0 j), true, z.2) else none
  | _ => none := id rfl
@[simp] theorem e_fLr2 (f g : Vv) (x : Option (D × Fl)) (en : En) : fLr2 f g (x :: en) = (f (x :: en)).bind fun z => (g z.2).bind fun y => match z.1, y.1 with
  | .int i, .int j => if rgOk i j = true then some (.list (rgD i j), true, y.2) else none
  | _, _ => none := id rfl
@[simp] theorem isI_ii (g : Int → Int → Option D) (i j : Int) : isI g (.int i) (.int j) = (g i j).map fun z => (z, false) := id rfl
@[simp] theorem dAdd_ii (i j : Int) : dAdd (.int i) (.int j) = some (.int (i + j), false) := id rfl
@[simp] theorem dAdd_ll (a b : List D) : dAdd (.list a) (.list b) = if a.length + b.length ≤ sizeLine then some (.list (a ++ b), true) else none := id rfl
@[simp] theorem dAdd_tt (a b : List D) : dAdd (.tuple a) (.tuple b) = if a.length + b.length ≤ sizeLine then some (.tuple (a ++ b), false) else none := id rfl
@[simp] theorem dInt_i (i : Int) : dInt [.int i] = some (.int i, false) := id rfl
@[simp] theorem dAbs_i (i : Int) : dAbs [.int i] = some (.int (if i < 0 then -i else i), false) := id rfl
@[simp] theorem dNeg_i (i : Int) : dNeg (.int i) = some (.int (-i), false) := id rfl
@[simp] theorem dLen_l (ds : List D) : dLen [.list ds] = some (.int (ds.length : Nat), false) := id rfl
@[simp] theorem dLen_t (ds : List D) : dLen [.tuple ds] = some (.int (ds.length : Nat), false) := id rfl
@[simp] theorem dList_l (ds : List D) : dList [.list ds] = some (.list ds, true) := id rfl
@[simp] theorem dList_t (ds : List D) : dList [.tuple ds] = some (.list ds, true) := id rfl
@[simp] theorem dTuple_l (ds : List D) : dTuple [.list ds] = some (.tuple ds, false) := id rfl
@[simp] theorem dTuple_t (ds : List D) : dTuple [.tuple ds] = some (.tuple ds, false) := id rfl
@[simp] theorem dIxA_l (ds : List D) (i : Int) : dIxA (.list ds) (.int i) = (atI ds i).map fun z => (z, false) := id rfl
@[simp] theorem dIxA_t (ds : List D) (i : Int) : dIxA (.tuple ds) (.int i) = (atI ds i).map fun z => (z, false) := id rfl
@[simp] theorem dIxA_d (es : List (D × D)) (k : D) : dIxA (.dict es) k = (keyOf k).bind fun k => (Fx.dictGet es k).map fun d => (d, false) := by cases k <;> rfl
@[simp] theorem keyOf_i (i : Int) : keyOf (.int i) = some (.inl i) := id rfl
@[simp] theorem keyOf_s (z : Str) : keyOf (.str z) = some (.inr z) := id rfl
@[simp] theorem mAppend_l (ds : List D) (x : D) : mAppend (.list ds) [x] = if ds.length < sizeLine then some (.none, false, .list (ds ++ [x])) else none := id rfl
@[simp] theorem dSetA_d (es : List (D × D)) (k d : D) : dSetA (.dict es) k d = (keyOf k).bind fun k => if es.length < sizeLine then some (.dict (Fx.dictPut es k d)) else none := by cases k <;> rfl
@[simp] theorem dGetA_d (es : List (D × D)) (k : D) : dGetA (.dict es) k = (keyOf k).bind fun k => Fx.dictGet es k := id rfl
@[simp] theorem zAdd_ii (i j : Int) : zAdd (.int i) (.int j) = some (.int (i + j)) := id rfl
@[simp] theorem zSub_ii (i j : Int) : zSub (.int i) (.int j) = some (.int (i - j)) := id rfl
@[simp] theorem iSub_e (i j : Int) : iSub i j = some (.int (i - j)) := id rfl
@[simp] theorem iLt_e (i j : Int) : iLt i j = some (.bool (decide (i < j))) := id rfl
@[simp] theorem iLe_e (i j : Int) : iLe i j = some (.bool (decide (i ≤ j))) := id rfl
@[simp] theorem iGt_e (i j : Int) : iGt i j = some (.bool (decide (j < i))) := id rfl
@[simp] theorem iGe_e (i j : Int) : iGe i j = some (.bool (decide (j ≤ i))) := id rfl
@[simp] theorem iMod_e (i j : Int) : iMod i j = if 0 < j then some (.int (i % j)) else none := id rfl
@[simp] theorem iMul_e (i j : Int) : iMul i j = if i.natAbs < 18446744073709551616 ∨ j.natAbs < 18446744073709551616 then some (.int (i * j)) else none := id rfl
@[simp] theorem iDiv_e (i j : Int) : iDiv i j = if 0 < j ∧ j < 1073741824 then some (.int (i / j)) else none := id rfl
@[simp] theorem pow18 : iPow 10 18 = some (.int 1000000000000000000) := by
  unfold iPow
  rw [if_pos (by decide)]
  rfl
@[simp] theorem seqD_l (ds : List D) : seqD (.list ds) = some ds := id rfl
@[simp] theorem seqD_t (ds : List D) : seqD (.tuple ds) = some ds := id rfl
theorem inLine_le {i : Int} (h0 : 0 ≤ i) (h1 : i ≤ 1000000000) : inLine i = true := by
  unfold inLine
  rw [Bool.and_eq_true, decide_eq_true_eq, decide_eq_true_eq]
  constructor <;> omega
theorem range1D_e (j : Int) : range1D [.int j] = if inLine j = true then some (rngD 0 1 j.toNat) else none := id rfl
theorem range2D_e (i j : Int) : range2D [.int i, .int j] = if (inLine i && inLine j) = true then some (rngD i 1 (j - i).toNat) else none := id rfl
theorem range1_nat {n : Nat} (h : n ≤ 1000000000) : range1D [.int (n : Int)] = some (rngD 0 1 n) := by
  rw [range1D_e, if_pos (inLine_le (by omega) (by omega)), Int.toNat_natCast]
@[simp] theorem range1_60 : range1D [.int 60] = some (rngD 0 1 60) := range1_nat (n := 60) (by decide)
@[simp] theorem late_sv (en : En) (d : D) : (Hd.sv d).late en = some d := id rfl
@[simp] theorem late_tv (en : En) (d : D) : (Hd.tv d).late en = some d := id rfl
@[simp] theorem late_slot (en : En) (i : Nat) : (Hd.slot i).late en = peek en i := id rfl
@[simp] theorem peek_0 (d : D) (f : Fl) (en : En) : peek (some (d, f) :: en) 0 = some d := id rfl
@[simp] theorem peek_s (x : Option (D × Fl)) (en : En) (i : Nat) : peek (x :: en) (i + 1) = peek en i := by
  unfold peek
  rw [List.getElem?_cons_succ]
@[simp] theorem lates_nil (en : En) : lates en [] = some [] := id rfl
@[simp] theorem lates_cons (en : En) (h : Hd) (hs : List Hd) : lates en (h :: hs) = (h.late en).bind fun d => (lates en hs).map fun ds => d :: ds := by
  show (match h.late en, lates en hs with
    | some d, some ds => some (d :: ds)
    | _, _ => none) = _
  cases h.late en <;> cases lates en hs <;> rfl
@[simp] theorem isOwn_0 (d : D) (en : En) : isOwn (some (d, .own) :: en) 0 = true := id rfl
@[simp] theorem isOwn_0l (d : D) (en : En) : isOwn (some (d, .lent) :: en) 0 = true := id rfl
@[simp] theorem isOwn_s (x : Option (D × Fl)) (en : En) (i : Nat) : isOwn (x :: en) (i + 1) = isOwn en i := by
  unfold isOwn
  rw [List.getElem?_cons_succ]
@[simp] theorem isLst_l (ds : List D) : isLst (.list ds) = true := id rfl
@[simp] theorem isDct_l (ds : List (D × D)) : isDct (.dict ds) = true := id rfl
@[simp] theorem e_fMut (i : Nat) (c : D → Bool) (l : Lv) (g : D → List D → Option (D × Bool × D)) (x : Option (D × Fl)) (en : En) : fMut i c l g (x :: en) = if isOwn (x :: en) i = true then (peek (x :: en) i).bind fun d0 => if c d0 = true then (l (x :: en)).bind fun z => match z.2[i]? with
  | some (some (d, f)) => if f = .sh then none else (g d z.1).map fun y => (y.1, y.2.1, z.2.set i (some (y.2.2, f)))
  | _ => none
  else none else none := id rfl
@[simp] theorem e_sAugN (i : Nat) (f : Vv) (h : D → D → Option D) (x : Option (D × Fl)) (en : En) : sAugN i f h (x :: en) = match (x :: en)[i]? with
  | some (some (d0, .sh)) => (f (x :: en)).bind fun z => (h d0 z.1).bind fun w => if free1 z.2 i = true then some (.nx, z.2.set i (some (w, .sh))) else none
  | _ => none := id rfl
@[simp] theorem e_sAugS (i : Nat) (f g : Vv) (h : D → D → Option D) (x : Option (D × Fl)) (en : En) : sAugS i f g h (x :: en) = if isOwn (x :: en) i = true then (f (x :: en)).bind fun z => (peek z.2 i).bind fun dw => (dGetA dw z.1).bind fun d0 => (g z.2).bind fun y => match y.2[i]? with
  | some (some (dw, fl)) => if fl = .sh then none else (h d0 y.1).bind fun w => (dSetA dw z.1 w).map fun u => (.nx, y.2.set i (some (u, fl)))
  | _ => none
  else none := id rfl
@[simp] theorem e_fCallW (np j : Nat) (l : Lv) (F : D → List D → Option (D × Bool × D)) (x : Option (D × Fl)) (en : En) : fCallW np j l F (x :: en) = if isOwn (x :: en) j = true then (l (x :: en)).bind fun z => match z.2[j]? with
  | some (some (dw, f)) => if f = .sh then none else if z.1.length = np then (F dw z.1).map fun y => (y.1, y.2.1, z.2.set j (some (y.2.2, f))) else none
  | _ => none
  else none := id rfl
@[simp] theorem e_sRetX (i : Nat) (x : Option (D × Fl)) (en : En) : sRetX i (x :: en) = match (x :: en)[i]? with
  | some (some (d, .sh)) => some (.rt d false, (x :: en))
  | some (some (d, .own)) => some (.rt d true, (x :: en).set i none)
  | _ => none := id rfl
@[simp] theorem e_gSubD (i : Nat) (f : Vv) (d : D) (x : Option (D × Fl)) (en : En) : gSubD i f d (x :: en) = if isOwn (x :: en) i = true then (f (x :: en)).bind fun z => match z.2[i]? with
  | some (some (dw, fl)) => if fl = .sh then none else (dSetA dw z.1 d).map fun w => z.2.set i (some (w, fl))
  | _ => none
  else none := id rfl
@[simp] theorem putAll_nil (en : En) : putAll [] [] en = some en := id rfl
@[simp] theorem putAll_cons (i : Nat) (is : List Nat) (d : D) (b : Bool) (ds : List (D × Bool)) (en : En) : putAll (i :: is) ((d, b) :: ds) en = if free1 en i = true then putAll is ds (en.set i (some (d, flag b))) else none := id rfl
@[simp] theorem gT_t (n : Nat) (r : List D → En → Option En) (ds : List D) (en : En) : gT n r (.tuple ds) en = if ds.length = n then r ds en else none := id rfl
@[simp] theorem gsNil_e (en : En) : gsNil [] en = some en := id rfl
@[simp] theorem gsCons_e (s : Gv) (r : List D → En → Option En) (d : D) (ds : List D) (en : En) : gsCons s r (d :: ds) en = (s d en).bind (r ds) := id rfl
@[simp] theorem mk0_e (n : Nat) (g : Sv) (ds : List D) : mk0 n g ds = (g (ds.map (fun d => some (d, Fl.sh)) ++ List.replicate (n - ds.length) none)).bind fun x => match x.1 with
  | .rt d b => some (d, b)
  | .nx => some (.none, false)
  | _ => none := id rfl
@[simp] theorem mkW_e (n : Nat) (g : Sv) (dw : D) (ds : List D) : mkW n g dw ds = (g (some (dw, Fl.lent) :: (ds.map (fun d => some (d, Fl.sh)) ++ List.replicate (n - 1 - ds.length) none))).bind fun x => (lentAt x.2 0).bind fun dw' => match x.1 with
  | .rt d b => some (d, b, dw')
  | .nx => some (.none, false, dw')
  | _ => none := id rfl
@[simp] theorem lentAt_0 (d : D) (en : En) : lentAt (some (d, .lent) :: en) 0 = some d := id rfl
@[simp] theorem isND_none : isND .none = true := id rfl
@[simp] theorem isND_int (i : Int) : isND (.int i) = false := id rfl
@[simp] theorem isND_bool (i : Bool) : isND (.bool i) = false := id rfl
@[simp] theorem isND_str (i : Str) : isND (.str i) = false := id rfl
@[simp] theorem isND_tup (i : List D) : isND (.tuple i) = false := id rfl
@[simp] theorem isND_lst (i : List D) : isND (.list i) = false := id rfl
@[simp] theorem isND_dct (i : List (D × D)) : isND (.dict i) = false := id rfl
@[simp] theorem sl_ok : sizeLine = 16777216 := sizeLine_eq
def LaterF (f : En → Prop) (e : En) : Prop := f e
@[simp] theorem wp_sSeq (a b : Sv) (x : Option (D × Fl)) (en : En) (Q : Out × En → Prop) : Wp (sSeq a b (x :: en)) Q ↔ Wp (a (x :: en)) fun y => match y.1 with
  | .nx => LaterF (fun e => Wp (b e) Q) y.2
  | o => Q (o, y.2) := by
  rw [e_sSeq, wp_bind]
  constructor
  · rintro ⟨⟨o, e⟩, h1, h2⟩
    refine ⟨_, h1, ?_⟩
    cases o with
    | nx => exact h2
    | bk => exact (wp_some (y := (Out.bk, e))).mp h2
    | ct => exact (wp_some (y := (Out.ct, e))).mp h2
    | rt d c => exact (wp_some (y := (Out.rt d c, e))).mp h2
  · rintro ⟨⟨o, e⟩, h1, h2⟩
    refine ⟨_, h1, ?_⟩
    cases o with
    | nx => exact h2
    | bk => exact (wp_some (y := (Out.bk, e))).mpr h2
    | ct => exact (wp_some (y := (Out.ct, e))).mpr h2
    | rt d c => exact (wp_some (y := (Out.rt d c, e))).mpr h2
@[simp] theorem wp_sFor (it : Lv) (s : Gv) (b : Sv) (x : Option (D × Fl)) (en : En) (Q : Out × En → Prop) : Wp (sFor it s b (x :: en)) Q ↔ Wp (it (x :: en)) fun z => Wp (forL s b z.1 z.2) Q := by rw [e_sFor, wp_bind]
@[simp] theorem wp_itR (a : Av) (g : List D → Option (List D)) (x : Option (D × Fl)) (en : En) (Q : List D × En → Prop) : Wp (itR a g (x :: en)) Q ↔ Wp (a (x :: en)) fun z => Wp (lates z.2 z.1) fun ds => Wp (g ds) fun r => Q (r, z.2) := by
  rw [e_itR, wp_bind]
  simp only [wp_bind, wp_map]
@[simp] theorem wp_itV (f : Vv) (x : Option (D × Fl)) (en : En) (Q : List D × En → Prop) : Wp (itV f (x :: en)) Q ↔ Wp (f (x :: en)) fun z => Wp (seqD z.1) fun ds => Q (ds, z.2) := by
  rw [e_itV, wp_bind]
  simp only [wp_map]
theorem later_i {f : En → Prop} {e : En} (h : f e) : LaterF f e := h
/-! ### comprehensions over values of one kind -/
theorem lc_typ {α : Type} {vs : List Nat} {s : Gv} {t : Tv} {f : Vv} {w : En} (enc : α → D) (e : α → En) (c : α → Bool) (g : α → D) (hw : wipeE w vs = w) : ∀ as : List α, (∀ a ∈ as, s (enc a) w = some (e a) ∧ t (e a) = some (c a, e a) ∧ (c a = true → f (e a) = some (g a, e a)) ∧ wipeE (e a) vs = w) →
    lcL vs s t f (as.map enc) w = some ((as.filter c).map g, w)
  | [], _ => rfl
  | a :: as, h => by
    obtain ⟨h1, h2, h3, h4⟩ := h a (List.mem_cons_self ..)
    have ih := lc_typ enc e c g hw as fun b hb => h b (List.mem_cons_of_mem _ hb)
    rw [List.map_cons]
    show ((s (enc a) (wipeE w vs)).bind _) = _
    rw [hw, h1]
    show ((t (e a)).bind _) = _
    rw [h2]
    by_cases hc : c a = true
    · show (if c a = true then (f (e a)).bind _ else _) = _
      rw [if_pos hc, h3 hc]
      show ((lcL vs s t f (as.map enc) (wipeE (e a) vs)).map _) = _
      rw [h4, ih, List.filter_cons_of_pos hc]
      rfl
    · show (if c a = true then _ else lcL vs s t f (as.map enc) (wipeE (e a) vs)) = _
      rw [if_neg hc, h4, ih, List.filter_cons_of_neg hc]
theorem flc_eq {vs : List Nat} {it : Lv} {s : Gv} {t : Tv} {f : Vv} {en en1 en2 : En} {ds rs : List D} (h1 : it en = some (ds, en1)) (h2 : lcL vs s t f ds (wipeE en1 vs) = some (rs, en2)) (hl : rs.length ≤ sizeLine) : fLc vs it s t f en = some (.list rs, true, backE en1 en2 vs) := by
  unfold fLc
  rw [h1]
  show ((lcL vs s t f ds (wipeE en1 vs)).bind _) = _
  rw [h2]
  exact if_pos hl
@[simp] theorem rgOk_n (i j : Int) : rgOk i j = (decide (-(2 ^ 62) ≤ i) && decide (i < 2 ^ 62) && decide (-(2 ^ 62) ≤ j) && decide (j < 2 ^ 62) && decide ((j - i).toNat ≤ 2 ^ 24)) := id rfl
theorem rgOk_le {i j : Int} (h0 : 0 ≤ i) (h1 : i ≤ 100000) (h2 : 0 ≤ j) (h3 : j ≤ 100000) : rgOk i j = true := by
  rw [rgOk_n]
  simp only [Bool.and_eq_true, decide_eq_true_eq]
  omega
/-! ### what may be compared -/
structure Sh (k : Nat) (d : D) : Prop where
  c : d.canLay0 = true
  p : d.depth ≤ k
theorem Sh.shaped {k : Nat} {d : D} (h : Sh k d) (hk : k ≤ 64) : SeqAt.shaped d = true := by
  unfold SeqAt.shaped
  rw [h.c, Bool.true_and, decide_eq_true_eq]
  exact Nat.le_trans h.p hk
theorem Sh.mono {k j : Nat} {d : D} (h : Sh k d) (hk : k ≤ j) : Sh j d := ⟨h.c, Nat.le_trans h.p hk⟩
theorem Sh.int (i : Int) : Sh 0 (.int i) := ⟨by simp [PyData.canLay0], Nat.le_refl _⟩
theorem Sh.str (i : Str) (h : PyData.strOk i = true) : Sh 0 (.str i) := ⟨by simp [PyData.canLay0, h], Nat.le_refl _⟩
theorem Sh.bool (i : Bool) : Sh 0 (.bool i) := ⟨by simp [PyData.canLay0], Nat.le_refl _⟩
theorem Sh.none : Sh 0 .none := ⟨by simp [PyData.canLay0], Nat.le_refl _⟩
theorem sh_all {k : Nat} : ∀ {ds : List D}, (∀ d ∈ ds, Sh k d) → PyData.canLayAll0 ds = true ∧ PyData.depthAll ds ≤ k
  | [], _ => ⟨by simp [PyData.canLayAll0], Nat.zero_le _⟩
  | d :: ds, h => by
    obtain ⟨a, b⟩ := h d (List.mem_cons_self ..)
    obtain ⟨a2, b2⟩ := sh_all fun d hd => h d (List.mem_cons_of_mem _ hd)
    refine ⟨by simp [PyData.canLayAll0, a, a2], ?_⟩
    show max _ _ ≤ k
    omega
theorem Sh.tup {k : Nat} {ds : List D} (h : ∀ d ∈ ds, Sh k d) : Sh (k + 1) (.tuple ds) := by
  obtain ⟨a, b⟩ := sh_all h
  exact ⟨by simp [PyData.canLay0, a], Nat.succ_le_succ b⟩
theorem Sh.lst {k : Nat} {ds : List D} (h : ∀ d ∈ ds, Sh k d) : Sh (k + 1) (.list ds) := by
  obtain ⟨a, b⟩ := sh_all h
  exact ⟨by simp [PyData.canLay0, a], Nat.succ_le_succ b⟩
theorem dNe_same {k : Nat} {d : D} (h : Sh k d) (hk : k ≤ 64) : dNe d d = some (.bool false, false) := by
  unfold dNe
  rw [h.shaped hk, SeqAt.eqv_refl d h.c]
  rfl
theorem dNe_of {k j : Nat} {d e : D} (h : Sh k d) (h' : Sh j e) (hk : k ≤ 64) (hj : j ≤ 64) : dNe d e = some (.bool (!PyData.eqv d e), false) := by
  unfold dNe
  rw [h.shaped hk, h'.shaped hj]
  rfl
theorem dEq_of {k j : Nat} {d e : D} (h : Sh k d) (h' : Sh j e) (hk : k ≤ 64) (hj : j ≤ 64) : dEq d e = some (.bool (PyData.eqv d e), false) := by
  unfold dEq
  rw [h.shaped hk, h'.shaped hj]
  rfl
theorem eqv_nil {ds : List D} : PyData.eqv (.list ds) (.list []) = ds.isEmpty := by
  cases ds <;> simp [PyData.eqv, PyData.eqvAll]
theorem lc_inv {vs : List Nat} {s : Gv} {t : Tv} {f : Vv} (I : List D → List D → En → Prop) (step : ∀ d r acc w, I (d :: r) acc w → Wp (s d (wipeE w vs)) fun e1 => Wp (t e1) fun x => if x.1 = true then Wp (f x.2) fun y => I r (acc ++ [y.1]) (wipeE y.2 vs) else I r acc (wipeE x.2 vs)) :
    ∀ (ds acc : List D) (w : En), I ds acc w → Wp (lcL vs s t f ds w) fun y => I [] (acc ++ y.1) y.2
  | [], acc, w, h => ⟨([], w), rfl, by show I [] (acc ++ []) w; rw [List.append_nil]; exact h⟩
  | d :: ds, acc, w, h => by
    obtain ⟨e1, p1, x, p2, q⟩ := step d ds acc w h
    show Wp ((s d (wipeE w vs)).bind _) _
    rw [p1]
    show Wp ((t e1).bind _) _
    rw [p2]
    show Wp (if x.1 = true then _ else _) _
    by_cases hx : x.1 = true
    · rw [if_pos hx] at q ⊢
      obtain ⟨y, p3, q⟩ := q
      obtain ⟨z, p4, q4⟩ := lc_inv I step ds _ _ q
      rw [p3]
      show Wp ((lcL vs s t f ds (wipeE y.2 vs)).map _) _
      rw [p4]
      refine ⟨_, rfl, ?_⟩
      rw [List.append_assoc] at q4
      exact q4
    · rw [if_neg hx] at q ⊢
      exact lc_inv I step ds _ _ q
theorem flc_wp {vs : List Nat} {it : Lv} {s : Gv} {t : Tv} {f : Vv} {en : En} {Q : D × Bool × En → Prop} (h : Wp (it en) fun x => Wp (lcL vs s t f x.1 (wipeE x.2 vs)) fun y => y.1.length ≤ sizeLine ∧ Q (.list y.1, true, backE x.2 y.2 vs)) : Wp (fLc vs it s t f en) Q := by
  obtain ⟨x, h1, y, h2, h3, q⟩ := h
  exact ⟨_, flc_eq h1 h2 h3, q⟩
theorem dEq_i (i j : Int) : dEq (.int i) (.int j) = some (.bool (decide (i = j)), false) := by
  rw [dEq_of (Sh.int i) (Sh.int j) (by omega) (by omega)]
  simp [PyData.eqv]
  rfl
@[simp] theorem wipeE_nil (en : En) : wipeE en [] = en := id rfl
@[simp] theorem wipeE_cons (en : En) (v : Nat) (vs : List Nat) : wipeE en (v :: vs) = (wipeE en vs).set v none := id rfl
@[simp] theorem backE_nil (e0 e1 : En) : backE e0 e1 [] = e1 := id rfl
end Fx
/-! PxI: lists of whole numbers. -/
namespace Fx
open PySem PySem.Spec L2
theorem sh_ints {k : Nat} (ns : List Int) : ∀ d ∈ ns.map PyData.int, Sh k d := fun d hd => by
  obtain ⟨i, _, rfl⟩ := List.mem_map.mp hd
  exact Sh.mono (Sh.int i) (Nat.zero_le _)
theorem any_ints (a : Int) (ns : List Int) : (ns.map PyData.int).any (fun z => PyData.eqv z (.int a)) = decide (a ∈ ns) := by
  rw [Bool.eq_iff_iff]
  simp only [List.any_eq_true, List.mem_map, decide_eq_true_eq]
  constructor
  · rintro ⟨_, ⟨n, hn, rfl⟩, e⟩
    simp [PyData.eqv] at e
    exact e ▸ hn
  · intro h
    exact ⟨_, ⟨a, h, rfl⟩, by simp [PyData.eqv]⟩
theorem memD_tI (a : Int) (ns : List Int) : memD (.int a) (.tuple (ns.map .int)) = some (decide (a ∈ ns)) := by
  have h1 : SeqAt.shaped (.int a) = true := (Sh.int a).shaped (by omega)
  have h2 : SeqAt.shaped (.tuple (ns.map PyData.int)) = true := (Sh.tup (k := 0) (sh_ints ns)).shaped (by omega)
  show (if (SeqAt.shaped (.int a) && SeqAt.shaped (.tuple (ns.map PyData.int))) = true then some ((ns.map PyData.int).any fun z => PyData.eqv z (.int a)) else none) = _
  rw [h1, h2, any_ints]
  rfl
theorem memD_lI (a : Int) (ns : List Int) : memD (.int a) (.list (ns.map .int)) = some (decide (a ∈ ns)) := by
  have h1 : SeqAt.shaped (.int a) = true := (Sh.int a).shaped (by omega)
  have h2 : SeqAt.shaped (.list (ns.map PyData.int)) = true := (Sh.lst (k := 0) (sh_ints ns)).shaped (by omega)
  show (if (SeqAt.shaped (.int a) && SeqAt.shaped (.list (ns.map PyData.int))) = true then some ((ns.map PyData.int).any fun z => PyData.eqv z (.int a)) else none) = _
  rw [h1, h2, any_ints]
  rfl
@[simp] theorem dIn_tI (a : Int) (ns : List Int) : dIn (.int a) (.tuple (ns.map .int)) = some (.bool (decide (a ∈ ns)), false) := by
  unfold dIn
  rw [memD_tI]
  rfl
@[simp] theorem dIn_lI (a : Int) (ns : List Int) : dIn (.int a) (.list (ns.map .int)) = some (.bool (decide (a ∈ ns)), false) := by
  unfold dIn
  rw [memD_lI]
  rfl
@[simp] theorem dNotIn_tI (a : Int) (ns : List Int) : dNotIn (.int a) (.tuple (ns.map .int)) = some (.bool (!decide (a ∈ ns)), false) := by
  unfold dNotIn
  rw [memD_tI]
  rfl
@[simp] theorem dNotIn_lI (a : Int) (ns : List Int) : dNotIn (.int a) (.list (ns.map .int)) = some (.bool (!decide (a ∈ ns)), false) := by
  unfold dNotIn
  rw [memD_lI]
  rfl
/-! ### sorted -/
def srtI (ns : List Int) : List Int := ns.mergeSort fun a b => decide (a ≤ b)
theorem le_int (a b : Int) : PySem.W.dataLe false (fun d : D => d) (.int a) (.int b) = decide (a ≤ b) := by
  by_cases h : a ≤ b
  · have h1 : ¬ b < a := by omega
    simp [PySem.W.dataLe, PySem.W.sortLe, PySem.W.keyToks, PyProof.Rows.listOrd, PyProof.Rows.itemOrd, PyProof.Rows.lexLt, PyProof.Rows.itemLt, h, h1]
  · have h1 : b < a := by omega
    simp [PySem.W.dataLe, PySem.W.sortLe, PySem.W.keyToks, PyProof.Rows.listOrd, PyProof.Rows.itemOrd, PyProof.Rows.lexLt, PyProof.Rows.itemLt, h, h1]
theorem srtD_ints (ns : List Int) : srtD (ns.map .int) = (srtI ns).map .int := by
  unfold srtD srtI
  rw [List.map_mergeSort]
  intro a _ b _
  exact (le_int a b).symm
theorem srtI_perm (ns : List Int) : (srtI ns).Perm ns := List.mergeSort_perm ns _
theorem srtI_mem {ns : List Int} {a : Int} : a ∈ srtI ns ↔ a ∈ ns := (srtI_perm ns).mem_iff
theorem srtI_le (ns : List Int) : (srtI ns).Pairwise (· ≤ ·) := by
  have h := List.pairwise_mergeSort (le := fun a b : Int => decide (a ≤ b)) (fun a b c => by simp only [decide_eq_true_eq]; omega) (fun a b => by simp only [Bool.or_eq_true, decide_eq_true_eq]; omega) ns
  exact h.imp fun z => of_decide_eq_true z
theorem srtI_lt {ns : List Int} (h : ns.Nodup) : (srtI ns).Pairwise (· < ·) := lt_of_le_nodup _ (srtI_le ns) ((srtI_perm ns).nodup_iff.mpr h)
theorem sortOk_ints {ns : List Int} (h : ns.length ≤ sizeLine) : sortOk (ns.map .int) = true := by
  unfold sortOk
  simp only [Bool.and_eq_true, Bool.or_eq_true, List.all_eq_true, decide_eq_true_eq, List.length_map]
  refine ⟨⟨⟨h, fun d hd e he => ?_⟩, .inr fun d hd => ?_⟩, fun d hd => ?_⟩
  · obtain ⟨i, _, rfl⟩ := List.mem_map.mp hd
    obtain ⟨j, _, rfl⟩ := List.mem_map.mp he
    simp [PySem.W.alike]
  · obtain ⟨i, _, rfl⟩ := List.mem_map.mp hd
    rfl
  · obtain ⟨i, _, rfl⟩ := List.mem_map.mp hd
    show 0 < 40
    omega
theorem layOk_ints (ns : List Int) : layOk (ns.map .int) = true := List.all_eq_true.mpr fun d hd => (sh_ints (k := 0) ns d hd).c
theorem dSort_lI {ns : List Int} (h : ns.length ≤ 16777216) : dSort [.list (ns.map .int)] = some (.list ((srtI ns).map .int), true) := by
  show (if _ then _ else _) = _
  rw [if_pos ⟨sortOk_ints (by rw [sl_ok]; exact h), layOk_ints ns⟩, srtD_ints]
theorem intsD_map (ns : List Int) : intsD (ns.map .int) = some ns := by
  induction ns with
  | nil => rfl
  | cons n ns ih =>
    show (intsD (ns.map .int)).map _ = _
    rw [ih]
    rfl
theorem dSortSet_lI {ns : List Int} (h : ns.length ≤ 1000) (h2 : (setI ns).length < 64) : dSortSet [.list (ns.map .int)] = some (.list ((setI ns).map .int), true) := by
  show ((intsD (ns.map .int)).bind _) = _
  rw [intsD_map]
  exact if_pos ⟨h, h2⟩
theorem insU_len (k : Int) : ∀ ns : List Int, (insU k ns).length ≤ ns.length + 1
  | [] => Nat.le_refl _
  | x :: xs => by
    unfold insU
    split
    · simp
    · split
      · simp
      · have := insU_len k xs
        simp only [List.length_cons]
        omega
theorem setI_len : ∀ ns : List Int, (setI ns).length ≤ ns.length
  | [] => Nat.le_refl _
  | n :: ns => by
    have h1 := insU_len n (setI ns)
    have h2 := setI_len ns
    show (insU n (setI ns)).length ≤ _
    rw [List.length_cons]
    omega
@[simp] theorem dRev_l (ds : List D) : dRev (.list ds) = some (.list ds.reverse, true) := id rfl
@[simp] theorem mExtG_ll (ds es : List D) : mExtG (.list ds) [.list es] = if ds.length + es.length ≤ sizeLine then some (.none, false, .list (ds ++ es)) else none := id rfl
theorem itR_at {a : Av} {g : List D → Option (List D)} {en en' : En} {hs : List Hd} {ds rs : List D} (h1 : a en = some (hs, en')) (h2 : lates en' hs = some ds) (h3 : g ds = some rs) : itR a g en = some (rs, en') := by
  unfold itR
  rw [h1, Option.bind_some]
  show ((lates en' hs).bind _) = _
  rw [h2, Option.bind_some, h3]
  rfl
/-! ### two for -/
theorem lcO_typ {α : Type} {vs vs1 : List Nat} {s s1 : Gv} {t t1 : Tv} {it1 : Lv} {f : Vv} {w : En} (enc : α → D) (g : α → List D) : ∀ as : List α, (∀ a ∈ as, ∃ e e1 e2, s (enc a) (wipeE w vs) = some e ∧ t e = some (true, e) ∧ it1 e = some e1 ∧ lcL vs1 s1 t1 f e1.1 (wipeE e1.2 vs1) = some (g a, e2) ∧ wipeE e2 vs = w) →
    lcO vs vs1 s t it1 s1 t1 f (as.map enc) w = some ((as.map g).flatten, w)
  | [], _ => rfl
  | a :: as, h => by
    obtain ⟨e, e1, e2, h1, h2, h3, h4, h5⟩ := h a (List.mem_cons_self ..)
    have ih := lcO_typ enc g as fun b hb => h b (List.mem_cons_of_mem _ hb)
    rw [List.map_cons]
    show ((s (enc a) (wipeE w vs)).bind _) = _
    rw [h1]
    show ((t e).bind _) = _
    rw [h2]
    show ((it1 e).bind _) = _
    rw [h3]
    show ((lcL vs1 s1 t1 f e1.1 (wipeE e1.2 vs1)).bind _) = _
    rw [h4]
    show ((lcO vs vs1 s t it1 s1 t1 f (as.map enc) (wipeE e2 vs)).map _) = _
    rw [h5, ih]
    rfl
theorem flc2_eq {vs vs1 : List Nat} {it it1 : Lv} {s s1 : Gv} {t t1 : Tv} {f : Vv} {en en1 en2 : En} {ds rs : List D} (h1 : it en = some (ds, en1)) (h2 : lcO vs vs1 s t it1 s1 t1 f ds (wipeE en1 vs) = some (rs, en2)) (hl : rs.length ≤ sizeLine) : fLc2 vs vs1 it s t it1 s1 t1 f en = some (.list rs, true, backE en1 en2 vs) := by
  unfold fLc2
  rw [h1]
  show ((lcO vs vs1 s t it1 s1 t1 f ds (wipeE en1 vs)).bind _) = _
  rw [h2]
  exact if_pos hl
end Fx
/-! PxS: texts that are written; calls that are lent what they are given. -/
namespace Fx
open PySem PySem.Spec L2
@[simp high] theorem ge_s {α : Type} (x : α) (l : List α) (i : Nat) : (x :: l)[i + 1]? = l[i]? := List.getElem?_cons_succ
@[simp high] theorem ge_0 {α : Type} (x : α) (l : List α) : (x :: l)[0]? = some x := List.getElem?_cons_zero
@[simp high] theorem ob_some {α β : Type} (a : α) (f : α → Option β) : (some a).bind f = f a := id rfl
@[simp high] theorem om_some {α β : Type} (a : α) (f : α → β) : (some a).map f = some (f a) := id rfl
theorem ofS_ok (a : String) : PyData.strOk (Str.ofString a) = true := by
  rw [Str.ofString_eq_toList]
  unfold PyData.strOk
  simp only [List.all_toArray, List.all_map, List.all_eq_true]
  intro c _
  have := c.valid
  simp only [Function.comp, decide_eq_true_eq]
  unfold Char.toNat
  rcases this with h | h
  · have : c.val.toNat < 0xd800 := h
    omega
  · exact h.2
theorem map_toNat_inj : ∀ {a b : List Char}, a.map Char.toNat = b.map Char.toNat → a = b
  | [], [], _ => rfl
  | [], _ :: _, h => by cases h
  | _ :: _, [], h => by cases h
  | x :: a, y :: b, h => by
    rw [List.map_cons, List.map_cons] at h
    obtain ⟨h1, h2⟩ := List.cons.inj h
    rw [map_toNat_inj h2, Char.ext (UInt32.toNat_inj.mp h1)]
@[simp] theorem ofS_inj (a b : String) : (Str.ofString a = Str.ofString b) = (a = b) := by
  refine propext ⟨fun h => ?_, fun h => by rw [h]⟩
  rw [Str.ofString_eq_toList, Str.ofString_eq_toList] at h
  injection h with h
  have h2 : a.toList.map Char.toNat = b.toList.map Char.toNat := by simpa using congrArg Array.toList h
  exact String.toList_inj.mp (map_toNat_inj h2)
theorem sh_lit (a : String) : Sh 0 (.str (Str.ofString a)) := Sh.str _ (ofS_ok a)
theorem dEq_str {a b : Str} (h : PyData.strOk a = true) (h' : PyData.strOk b = true) : dEq (.str a) (.str b) = some (.bool (decide (a = b)), false) := by
  rw [dEq_of (Sh.str a h) (Sh.str b h') (by omega) (by omega)]
  simp [PyData.eqv]
  rfl
theorem dNe_str {a b : Str} (h : PyData.strOk a = true) (h' : PyData.strOk b = true) : dNe (.str a) (.str b) = some (.bool (!decide (a = b)), false) := by
  rw [dNe_of (Sh.str a h) (Sh.str b h') (by omega) (by omega)]
  simp [PyData.eqv]
  rfl
@[simp] theorem dEq_lit (a b : String) : dEq (.str (Str.ofString a)) (.str (Str.ofString b)) = some (.bool (decide (a = b)), false) := by
  rw [dEq_str (ofS_ok a) (ofS_ok b)]
  simp only [ofS_inj]
@[simp] theorem dNe_lit (a b : String) : dNe (.str (Str.ofString a)) (.str (Str.ofString b)) = some (.bool (!decide (a = b)), false) := by
  rw [dNe_str (ofS_ok a) (ofS_ok b)]
  simp only [ofS_inj]
theorem dEq_int (i j : Int) : dEq (.int i) (.int j) = some (.bool (decide (i = j)), false) := by
  rw [dEq_of (Sh.int i) (Sh.int j) (by omega) (by omega)]
  simp [PyData.eqv]
  rfl
theorem dNe_int (i j : Int) : dNe (.int i) (.int j) = some (.bool (!decide (i = j)), false) := by
  rw [dNe_of (Sh.int i) (Sh.int j) (by omega) (by omega)]
  simp [PyData.eqv]
  rfl
/-- one of some texts -/
theorem memD_ts {a : Str} {bs : List Str} (h : PyData.strOk a = true) (h' : ∀ b ∈ bs, PyData.strOk b = true) : memD (.str a) (.tuple (bs.map .str)) = some (decide (a ∈ bs)) := by
  have h1 : SeqAt.shaped (.str a) = true := (Sh.str a h).shaped (by omega)
  have h2 : SeqAt.shaped (.tuple (bs.map PyData.str)) = true := (Sh.tup (k := 0) fun d hd => by
    obtain ⟨b, hb, rfl⟩ := List.mem_map.mp hd
    exact Sh.str b (h' b hb)).shaped (by omega)
  show (if (SeqAt.shaped (.str a) && SeqAt.shaped (.tuple (bs.map PyData.str))) = true then some ((bs.map PyData.str).any fun z => PyData.eqv z (.str a)) else none) = _
  rw [h1, h2]
  refine congrArg some ?_
  rw [Bool.eq_iff_iff]
  simp only [List.any_eq_true, List.mem_map, decide_eq_true_eq]
  constructor
  · rintro ⟨_, ⟨n, hn, rfl⟩, e⟩
    simp [PyData.eqv] at e
    exact e ▸ hn
  · intro h
    exact ⟨_, ⟨a, h, rfl⟩, by simp [PyData.eqv]⟩
theorem dIn_ts {a : Str} {bs : List Str} (h : PyData.strOk a = true) (h' : ∀ b ∈ bs, PyData.strOk b = true) : dIn (.str a) (.tuple (bs.map .str)) = some (.bool (decide (a ∈ bs)), false) := by
  unfold dIn
  rw [memD_ts h h']
  rfl
@[simp] theorem dIn_lit2 (a b c : String) : dIn (.str (Str.ofString a)) (.tuple [.str (Str.ofString b), .str (Str.ofString c)]) = some (.bool (decide (a = b ∨ a = c)), false) := by
  have := dIn_ts (a := Str.ofString a) (bs := [Str.ofString b, Str.ofString c]) (ofS_ok a) (by simp [ofS_ok])
  simpa using this
@[simp] theorem dIn_lit3 (a b c d : String) : dIn (.str (Str.ofString a)) (.tuple [.str (Str.ofString b), .str (Str.ofString c), .str (Str.ofString d)]) = some (.bool (decide (a = b ∨ a = c ∨ a = d)), false) := by
  have := dIn_ts (a := Str.ofString a) (bs := [Str.ofString b, Str.ofString c, Str.ofString d]) (ofS_ok a) (by simp [ofS_ok])
  simpa using this
/-! ### slices -/
theorem cut_drop {α : Type} (ds : List α) (k : Nat) : cutD ds (some (k : Int)) none = ds.drop k := by
  unfold cutD
  rw [HT.sIx_none, HT.sIx_nat]
  by_cases h : k ≤ ds.length
  · rw [Nat.min_eq_left h, List.take_of_length_le (by rw [List.length_drop]; exact Nat.le_refl _)]
  · rw [Nat.min_eq_right (by omega), Nat.sub_self, List.take_zero, List.drop_of_length_le (by omega)]
theorem cut_take {α : Type} (ds : List α) (m : Nat) : cutD ds none (some (m : Int)) = ds.take m := by
  unfold cutD
  rw [HT.sIx_none, HT.sIx_nat, List.drop_zero, Nat.sub_zero]
  by_cases h : m ≤ ds.length
  · rw [Nat.min_eq_left h]
  · rw [Nat.min_eq_right (by omega), List.take_of_length_le (Nat.le_refl _), List.take_of_length_le (by omega)]
theorem cut_last {α : Type} (ds : List α) : cutD ds none (some (-1)) = ds.dropLast := by
  unfold cutD
  rw [HT.sIx_none, List.drop_zero, Nat.sub_zero, List.dropLast_eq_take]
  congr 1
  show ((-1 : Int) + (ds.length : Int)).toNat = ds.length - 1
  omega
theorem cut_all {α : Type} (ds : List α) : cutD ds none none = ds := by
  unfold cutD
  rw [HT.sIx_none, HT.sIx_none, List.drop_zero, Nat.sub_zero, List.take_of_length_le (Nat.le_refl _)]
@[simp] theorem dSl_tk (ds : List D) (m : Nat) : dSl (.tuple ds) none (some (m : Int)) = some (.tuple (ds.take m), false) := by rw [← cut_take]; rfl
@[simp] theorem dSl_lk (ds : List D) (m : Nat) : dSl (.list ds) none (some (m : Int)) = some (.list (ds.take m), true) := by rw [← cut_take]; rfl
@[simp] theorem dSl_tk1 (ds : List D) (m : Nat) : dSl (.tuple ds) none (some ((m : Int) + 1)) = some (.tuple (ds.take (m + 1)), false) := by rw [← cut_take]; rfl
@[simp] theorem dSl_lk1 (ds : List D) (m : Nat) : dSl (.list ds) none (some ((m : Int) + 1)) = some (.list (ds.take (m + 1)), true) := by rw [← cut_take]; rfl
@[simp] theorem dSl_td (ds : List D) (m : Nat) : dSl (.tuple ds) (some (m : Int)) none = some (.tuple (ds.drop m), false) := by rw [← cut_drop]; rfl
@[simp] theorem dSl_ld (ds : List D) (m : Nat) : dSl (.list ds) (some (m : Int)) none = some (.list (ds.drop m), true) := by rw [← cut_drop]; rfl
@[simp] theorem dSl_td1 (ds : List D) (m : Nat) : dSl (.tuple ds) (some ((m : Int) + 1)) none = some (.tuple (ds.drop (m + 1)), false) := by rw [← cut_drop]; rfl
@[simp] theorem dSl_ld1 (ds : List D) (m : Nat) : dSl (.list ds) (some ((m : Int) + 1)) none = some (.list (ds.drop (m + 1)), true) := by rw [← cut_drop]; rfl
@[simp] theorem dSl_l_1 (ds : List D) : dSl (.list ds) (some 1) none = some (.list (ds.drop 1), true) := dSl_ld ds 1
@[simp] theorem dSl_t_1 (ds : List D) : dSl (.tuple ds) (some 1) none = some (.tuple (ds.drop 1), false) := dSl_td ds 1
@[simp] theorem dSl_t_k2 (ds : List D) : dSl (.tuple ds) none (some 2) = some (.tuple (ds.take 2), false) := dSl_tk ds 2
@[simp] theorem dSl_t_k1 (ds : List D) : dSl (.tuple ds) none (some 1) = some (.tuple (ds.take 1), false) := dSl_tk ds 1
@[simp] theorem dSl_tl (ds : List D) : dSl (.tuple ds) none (some (-1)) = some (.tuple ds.dropLast, false) := by rw [← cut_last]; rfl
@[simp] theorem dSl_ll (ds : List D) : dSl (.list ds) none (some (-1)) = some (.list ds.dropLast, true) := by rw [← cut_last]; rfl
@[simp] theorem dSl_ta (ds : List D) : dSl (.tuple ds) none none = some (.tuple ds, false) := by
  show some (PyData.tuple (cutD ds none none), false) = _
  rw [cut_all]
@[simp] theorem dSl_la (ds : List D) : dSl (.list ds) none none = some (.list ds, true) := by
  show some (PyData.list (cutD ds none none), true) = _
  rw [cut_all]
theorem atI_n {α : Type} {ds : List α} {n : Nat} {d : α} (h : ds[n]? = some d) : atI ds (n : Int) = some d := by
  have hn := (List.getElem?_eq_some_iff.mp h).1
  unfold atI ixN
  rw [if_pos (by omega), if_pos (by omega), Int.toNat_natCast]
  exact h
@[simp] theorem atI_snoc {α : Type} (ds : List α) (d : α) : atI (ds ++ [d]) (-1) = some d := by
  unfold atI ixN
  rw [if_neg (by omega), if_pos (by simp; omega)]
  simp
  rw [show ((-1 : Int) + ((ds.length : Int) + 1)).toNat = ds.length by omega]
  simp
@[simp] theorem dDict_d (es : List (D × D)) : dDict [.dict es] = some (.dict es, true) := id rfl
@[simp] theorem dMax2_ii (i j : Int) : dMax2 [.int i, .int j] = some (.int (if j > i then j else i), false) := id rfl
@[simp] theorem dMin2_ii (i j : Int) : dMin2 [.int i, .int j] = some (.int (if j < i then j else i), false) := id rfl
@[simp] theorem atI_m1 {α : Type} (a : α) : atI [a] (-1) = some a := id rfl
@[simp] theorem atI_m2 {α : Type} (a b : α) : atI [a, b] (-1) = some b := id rfl
@[simp] theorem atI_m3 {α : Type} (a b c : α) : atI [a, b, c] (-1) = some c := id rfl
@[simp] theorem atI_m4 {α : Type} (a b c d : α) : atI [a, b, c, d] (-1) = some d := id rfl
@[simp] theorem atI_0 {α : Type} (a : α) (r : List α) : atI (a :: r) 0 = some a := atI_n (n := 0) rfl
@[simp] theorem atI_1 {α : Type} (a b : α) (r : List α) : atI (a :: b :: r) 1 = some b := atI_n (n := 1) rfl
@[simp] theorem atI_2 {α : Type} (a b c : α) (r : List α) : atI (a :: b :: c :: r) 2 = some c := atI_n (n := 2) rfl
@[simp] theorem atI_3 {α : Type} (a b c d : α) (r : List α) : atI (a :: b :: c :: d :: r) 3 = some d := atI_n (n := 3) rfl
/-! ### calls -/
@[simp] theorem e_fCallL (np : Nat) (a : Av) (F : List D → Option (D × Bool)) (x : Option (D × Fl)) (en : En) : fCallL np a F (x :: en) = (a (x :: en)).bind fun x => (lates x.2 x.1).bind fun ds => if ds.length = np then (F ds).bind fun z => if okR z.1 z.2 = true then some (z.1, z.2, x.2) else none else none := id rfl
theorem lCons_b (p : Vv) (r : Lv) (en : En) : lCons p r en = (p en).bind fun z => (r z.2).map fun y => (z.1 :: y.1, y.2) := by
  unfold lCons
  cases h : p en with
  | none => rfl
  | some z =>
    obtain ⟨z1, z2⟩ := z
    cases h2 : r z2 <;> simp [h2]
@[simp high] theorem e_fCall1 (p : Vv) (F : List D → Option (D × Bool)) (x : Option (D × Fl)) (en : En) : fCall 1 (lCons p lNil) F (x :: en) = (p (x :: en)).bind fun z => (F [z.1]).map fun y => (y.1, y.2, z.2) := by
  rw [e_fCall, lCons_b]
  cases p (x :: en) <;> rfl
@[simp high] theorem e_fCall2 (p q : Vv) (F : List D → Option (D × Bool)) (x : Option (D × Fl)) (en : En) : fCall 2 (lCons p (lCons q lNil)) F (x :: en) = (p (x :: en)).bind fun z => (q z.2).bind fun u => (F [z.1, u.1]).map fun y => (y.1, y.2, u.2) := by
  rw [e_fCall, lCons_b]
  cases p (x :: en) with
  | none => rfl
  | some z =>
    simp only [Option.bind_some, lCons_b]
    cases q z.2 <;> rfl
@[simp high] theorem e_fCall3 (p q r : Vv) (F : List D → Option (D × Bool)) (x : Option (D × Fl)) (en : En) : fCall 3 (lCons p (lCons q (lCons r lNil))) F (x :: en) = (p (x :: en)).bind fun z => (q z.2).bind fun u => (r u.2).bind fun t => (F [z.1, u.1, t.1]).map fun y => (y.1, y.2, t.2) := by
  rw [e_fCall, lCons_b]
  cases p (x :: en) with
  | none => rfl
  | some z =>
    simp only [Option.bind_some, lCons_b]
    cases q z.2 with
    | none => rfl
    | some u =>
      simp only [Option.bind_some, lCons_b]
      cases r u.2 <;> rfl
@[simp] theorem okR_i (i : Int) (b : Bool) : okR (.int i) b = true := by cases b <;> rfl
@[simp] theorem okR_b (i b : Bool) : okR (.bool i) b = true := by cases b <;> rfl
@[simp] theorem okR_s (i : Str) (b : Bool) : okR (.str i) b = true := by cases b <;> rfl
@[simp] theorem okR_n (b : Bool) : okR .none b = true := by cases b <;> rfl
@[simp] theorem okR_t (ds : List D) (b : Bool) : okR (.tuple ds) b = tupDs ds := by cases b <;> simp [okR, tupD]
@[simp] theorem okR_l (ds : List D) : okR (.list ds) true = tupDs ds := rfl
theorem tupDs_all {ds : List D} (h : ∀ d ∈ ds, tupD d = true) : tupDs ds = true := by
  induction ds with
  | nil => rfl
  | cons d ds ih =>
    rw [tupDs, h d (List.mem_cons_self ..), ih fun e he => h e (List.mem_cons_of_mem _ he)]
    rfl
/-! ### kinds -/
@[simp] theorem kt_none_int : kitB "NoneType" "int" = some false := by kernel_rfl
@[simp] theorem kt_none_bool : kitB "NoneType" "bool" = some false := by kernel_rfl
@[simp] theorem kt_none_str : kitB "NoneType" "str" = some false := by kernel_rfl
@[simp] theorem kt_none_list : kitB "NoneType" "list" = some false := by kernel_rfl
@[simp] theorem kt_none_tuple : kitB "NoneType" "tuple" = some false := by kernel_rfl
@[simp] theorem kt_none_dict : kitB "NoneType" "dict" = some false := by kernel_rfl
@[simp] theorem kt_bool_int : kitB "bool" "int" = some true := by kernel_rfl
@[simp] theorem kt_bool_bool : kitB "bool" "bool" = some true := by kernel_rfl
@[simp] theorem kt_bool_str : kitB "bool" "str" = some false := by kernel_rfl
@[simp] theorem kt_bool_list : kitB "bool" "list" = some false := by kernel_rfl
@[simp] theorem kt_bool_tuple : kitB "bool" "tuple" = some false := by kernel_rfl
@[simp] theorem kt_bool_dict : kitB "bool" "dict" = some false := by kernel_rfl
@[simp] theorem kt_int_int : kitB "int" "int" = some true := by kernel_rfl
@[simp] theorem kt_int_bool : kitB "int" "bool" = some false := by kernel_rfl
@[simp] theorem kt_int_str : kitB "int" "str" = some false := by kernel_rfl
@[simp] theorem kt_int_list : kitB "int" "list" = some false := by kernel_rfl
@[simp] theorem kt_int_tuple : kitB "int" "tuple" = some false := by kernel_rfl
@[simp] theorem kt_int_dict : kitB "int" "dict" = some false := by kernel_rfl
@[simp] theorem kt_str_int : kitB "str" "int" = some false := by kernel_rfl
@[simp] theorem kt_str_bool : kitB "str" "bool" = some false := by kernel_rfl
@[simp] theorem kt_str_str : kitB "str" "str" = some true := by kernel_rfl
@[simp] theorem kt_str_list : kitB "str" "list" = some false := by kernel_rfl
@[simp] theorem kt_str_tuple : kitB "str" "tuple" = some false := by kernel_rfl
@[simp] theorem kt_str_dict : kitB "str" "dict" = some false := by kernel_rfl
@[simp] theorem kt_list_int : kitB "list" "int" = some false := by kernel_rfl
@[simp] theorem kt_list_bool : kitB "list" "bool" = some false := by kernel_rfl
@[simp] theorem kt_list_str : kitB "list" "str" = some false := by kernel_rfl
@[simp] theorem kt_list_list : kitB "list" "list" = some true := by kernel_rfl
@[simp] theorem kt_list_tuple : kitB "list" "tuple" = some false := by kernel_rfl
@[simp] theorem kt_list_dict : kitB "list" "dict" = some false := by kernel_rfl
@[simp] theorem kt_tuple_int : kitB "tuple" "int" = some false := by kernel_rfl
@[simp] theorem kt_tuple_bool : kitB "tuple" "bool" = some false := by kernel_rfl
@[simp] theorem kt_tuple_str : kitB "tuple" "str" = some false := by kernel_rfl
@[simp] theorem kt_tuple_list : kitB "tuple" "list" = some false := by kernel_rfl
@[simp] theorem kt_tuple_tuple : kitB "tuple" "tuple" = some true := by kernel_rfl
@[simp] theorem kt_tuple_dict : kitB "tuple" "dict" = some false := by kernel_rfl
@[simp] theorem kt_dict_int : kitB "dict" "int" = some false := by kernel_rfl
@[simp] theorem kt_dict_bool : kitB "dict" "bool" = some false := by kernel_rfl
@[simp] theorem kt_dict_str : kitB "dict" "str" = some false := by kernel_rfl
@[simp] theorem kt_dict_list : kitB "dict" "list" = some false := by kernel_rfl
@[simp] theorem kt_dict_tuple : kitB "dict" "tuple" = some false := by kernel_rfl
@[simp] theorem kt_dict_dict : kitB "dict" "dict" = some true := by kernel_rfl
@[simp] theorem ty_n : tyD .none = "NoneType" := id rfl
@[simp] theorem ty_b (b : Bool) : tyD (.bool b) = "bool" := id rfl
@[simp] theorem ty_i (i : Int) : tyD (.int i) = "int" := id rfl
@[simp] theorem ty_s (s : Str) : tyD (.str s) = "str" := id rfl
@[simp] theorem ty_l (ds : List D) : tyD (.list ds) = "list" := id rfl
@[simp] theorem ty_t (ds : List D) : tyD (.tuple ds) = "tuple" := id rfl
@[simp] theorem ty_d (es : List (D × D)) : tyD (.dict es) = "dict" := id rfl
/-! ### comprehensions over values of one kind -/
theorem fLc_typ {α : Type} {vs : List Nat} {it : Lv} {s : Gv} {t : Tv} {f : Vv} {en en1 w : En} (enc : α → D) (as : List α) (c : α → Bool) (g : α → D) (h1 : it en = some (as.map enc, en1)) (hw : wipeE en1 vs = w) (hv : wipeE w vs = w) (hl : as.length ≤ sizeLine)
    (h : ∀ a ∈ as, ∃ e, s (enc a) w = some e ∧ t e = some (c a, e) ∧ (c a = true → f e = some (g a, e)) ∧ wipeE e vs = w) : fLc vs it s t f en = some (.list ((as.filter c).map g), true, backE en1 w vs) := by
  have go : ∀ bs : List α, (∀ a ∈ bs, a ∈ as) → lcL vs s t f (bs.map enc) w = some ((bs.filter c).map g, w) := by
    intro bs
    induction bs with
    | nil => intro _; rfl
    | cons a bs ih =>
      intro hb
      obtain ⟨e, q1, q2, q3, q4⟩ := h a (hb a (List.mem_cons_self ..))
      have ih' := ih fun b hb' => hb b (List.mem_cons_of_mem _ hb')
      rw [List.map_cons]
      show ((s (enc a) (wipeE w vs)).bind _) = _
      rw [hv, q1]
      show ((t e).bind _) = _
      rw [q2]
      by_cases hc : c a = true
      · show (if c a = true then (f e).bind _ else _) = _
        rw [if_pos hc, q3 hc]
        show ((lcL vs s t f (bs.map enc) (wipeE e vs)).map _) = _
        rw [q4, ih', List.filter_cons_of_pos hc]
        rfl
      · show (if c a = true then _ else lcL vs s t f (bs.map enc) (wipeE e vs)) = _
        rw [if_neg hc, q4, ih', List.filter_cons_of_neg hc]
  exact flc_eq h1 (by rw [hw]; exact go as fun _ h => h) (by
    rw [List.length_map]
    exact Nat.le_trans (List.length_filter_le ..) hl)
theorem wp_fLc {α : Type} {vs : List Nat} {it : Lv} {s : Gv} {t : Tv} {f : Vv} {en en1 : En} {Q : D × Bool × En → Prop} (enc : α → D) (as : List α) (c : α → Bool) (g : α → D) (h1 : it en = some (as.map enc, en1)) (hv : wipeE (wipeE en1 vs) vs = wipeE en1 vs) (hl : as.length ≤ sizeLine)
    (h : ∀ a ∈ as, ∃ e, s (enc a) (wipeE en1 vs) = some e ∧ t e = some (c a, e) ∧ (c a = true → f e = some (g a, e)) ∧ wipeE e vs = wipeE en1 vs) (q : Q (.list ((as.filter c).map g), true, backE en1 (wipeE en1 vs) vs)) : Wp (fLc vs it s t f en) Q :=
  ⟨_, fLc_typ enc as c g h1 rfl hv hl h, q⟩
@[simp] theorem filt_true {α : Type} (l : List α) : l.filter (fun _ => true) = l := List.filter_eq_self.mpr fun _ _ => rfl
@[simp] theorem filt_false {α : Type} (l : List α) : l.filter (fun _ => false) = [] := List.filter_eq_nil_iff.mpr fun _ _ h => by cases h
theorem wp_val {α : Type} {x : Option α} {y : α} (h : Wp x fun z => z = y) : x = some y := by
  obtain ⟨z, e, rfl⟩ := h
  exact e
theorem wp_of {α : Type} {x : Option α} {y : α} {Q : α → Prop} (h : x = some y) (q : Q y) : Wp x Q := ⟨y, h, q⟩
end Fx
/-! PxT: loops that look for one; ranges; lists of numbers. -/
namespace Fx
open PySem PySem.Spec L2
theorem for_look {α : Type} {s : Gv} {b : Sv} {Q : Out × En → Prop} (enc : α → D) (p : α → Bool) (r : α → D × Bool) (I : En → Prop) : ∀ (as : List α) (en : En), I en →
    (∀ a ∈ as, ∀ en, I en → Wp (s (enc a) en) fun e1 => Wp (b e1) fun y => if p a = true then y.1 = .rt (r a).1 (r a).2 ∧ I y.2 else (y.1 = .nx ∨ y.1 = .ct) ∧ I y.2) →
    (∀ a, as.find? p = some a → ∀ en, I en → Q (.rt (r a).1 (r a).2, en)) → (as.find? p = none → ∀ en, I en → Q (.nx, en)) → Wp (forL s b (as.map enc) en) Q
  | [], en, h, _, _, q => ⟨_, rfl, q rfl en h⟩
  | a :: as, en, h, st, q1, q2 => by
    obtain ⟨e1, p1, y, p2, z⟩ := st a (List.mem_cons_self ..) en h
    obtain ⟨o, e2⟩ := y
    rw [List.map_cons]
    refine wp_bind.mpr ⟨e1, p1, wp_bind.mpr ⟨_, p2, ?_⟩⟩
    by_cases hp : p a = true
    · rw [if_pos hp] at z
      obtain ⟨z1, z2⟩ := z
      dsimp only at z1
      subst z1
      exact ⟨_, rfl, q1 a (List.find?_cons_of_pos hp) e2 z2⟩
    · rw [if_neg hp] at z
      obtain ⟨z1, z2⟩ := z
      have ih := for_look enc p r I as e2 z2 (fun a ha => st a (List.mem_cons_of_mem _ ha)) (fun a ha => q1 a (by rw [List.find?_cons_of_neg hp]; exact ha)) (fun ha => q2 (by rw [List.find?_cons_of_neg hp]; exact ha))
      rcases z1 with z1 | z1 <;> (dsimp only at z1; subst z1; exact ih)
def iD (k : Nat) : D := .int (k : Int)
theorem range1_i {n : Nat} (h : n ≤ 1000000) : range1D [.int (n : Int)] = some ((List.range n).map iD) := by
  rw [range1_nat (by omega)]
  unfold rngD
  exact congrArg some (List.map_congr_left fun i _ => by simp [iD])
theorem range2_i {a b : Nat} (ha : a ≤ 1000000) (hb : b ≤ 1000000) : range2D [.int (a : Int), .int (b : Int)] = some ((List.range' a (b - a)).map iD) := by
  rw [range2D_e, if_pos (by rw [inLine_le (by omega) (by omega), inLine_le (by omega) (by omega)]; rfl), show ((b : Int) - (a : Int)).toNat = b - a by omega]
  unfold rngD
  rw [List.range'_eq_map_range, List.map_map]
  refine congrArg some (List.map_congr_left fun i _ => ?_)
  simp [iD]
theorem range2_i1 {a b : Nat} (ha : a + 1 ≤ 1000000) (hb : b ≤ 1000000) : range2D [.int ((a : Int) + 1), .int (b : Int)] = some ((List.range' (a + 1) (b - (a + 1))).map iD) := range2_i ha hb
theorem rev_range (n : Nat) : (List.range n).map (fun j => n - 1 - j) = (List.range n).reverse := by
  refine List.ext_getElem (by simp) fun i h1 h2 => ?_
  simp at h1
  simp
theorem range3_i {n : Nat} (h : n ≤ 1000000) : range3D [.int ((n : Int) - 1), .int (-1), .int (-1)] = some ((List.range n).reverse.map iD) := by
  show (if (inLine ((n : Int) - 1) && inLine (-1) && decide ((-1 : Int) = -1)) = true then some (rngD ((n : Int) - 1) (-1) (((n : Int) - 1) - (-1)).toNat) else none) = _
  have h1 : inLine ((n : Int) - 1) = true := by
    unfold inLine
    rw [Bool.and_eq_true, decide_eq_true_eq, decide_eq_true_eq]
    constructor <;> omega
  have h2 : inLine (-1) = true := by
    unfold inLine
    rw [Bool.and_eq_true, decide_eq_true_eq, decide_eq_true_eq]
    constructor <;> omega
  rw [h1, h2, if_pos (by simp), show (((n : Int) - 1) - (-1)).toNat = n by omega]
  unfold rngD
  rw [← rev_range, List.map_map]
  refine congrArg some (List.map_congr_left fun i hi => ?_)
  have := List.mem_range.mp hi
  show PyData.int _ = PyData.int _
  congr 1
  simp only [Function.comp]
  omega
theorem sh_iD (k : Nat) : Sh 0 (iD k) := Sh.int _
theorem ints_ne (ks : List Nat) : dNe (.list (ks.map iD)) (.list []) = some (.bool (!ks.isEmpty), false) := by
  rw [dNe_of (Sh.lst (k := 0) fun d hd => by
    obtain ⟨i, _, rfl⟩ := List.mem_map.mp hd
    exact sh_iD i) (Sh.lst (k := 0) fun d hd => by cases hd) (by omega) (by omega), eqv_nil]
  cases ks <;> rfl
theorem ints_eq (ks : List Nat) : dEq (.list (ks.map iD)) (.list []) = some (.bool ks.isEmpty, false) := by
  rw [dEq_of (Sh.lst (k := 0) fun d hd => by
    obtain ⟨i, _, rfl⟩ := List.mem_map.mp hd
    exact sh_iD i) (Sh.lst (k := 0) fun d hd => by cases hd) (by omega) (by omega), eqv_nil]
  cases ks <;> rfl
theorem filt_head {α : Type} (p : α → Bool) (l : List α) : (l.filter p).head? = l.find? p := List.head?_filter
theorem filt_last {α : Type} (p : α → Bool) (l : List α) : (l.filter p).getLast? = l.reverse.find? p := by
  rw [← filt_head, List.filter_reverse, List.head?_reverse]
/-- xs[0] if xs != [] else .. -/
theorem wp_first {i : Nat} {Y : Ev} {x : Option (D × Fl)} {en : En} {ks : List Nat} {f : Fl} {Q : D × Bool × En → Prop} (h : (x :: en)[i]? = some (some (.list (ks.map iD), f)))
    (q1 : ∀ k, ks.head? = some k → Q (iD k, false, x :: en)) (q2 : ks.head? = none → Wp (Y (x :: en)) Q) :
    Wp (fIf (tB1 (f2 (fSlot i) (toO (fLst (lNil))) (dNe))) (f2 (fSlot i) (svO (fC (.int 0))) dIxA) Y (x :: en)) Q := by
  have hp : peek (x :: en) i = some (.list (ks.map iD)) := by unfold peek; rw [h]
  have e1 := ints_ne ks
  cases ks with
  | nil =>
    simp at e1 hp
    simp [hp, e1]
    exact q2 rfl
  | cons k ks =>
    simp at e1 hp
    simp [hp, e1]
    exact q1 k rfl
/-- xs[-1] if xs != [] else .. -/
theorem wp_lastI {i : Nat} {Y : Ev} {x : Option (D × Fl)} {en : En} {ks : List Nat} {f : Fl} {Q : D × Bool × En → Prop} (h : (x :: en)[i]? = some (some (.list (ks.map iD), f)))
    (q1 : ∀ k, ks.getLast? = some k → Q (iD k, false, x :: en)) (q2 : ks.getLast? = none → Wp (Y (x :: en)) Q) :
    Wp (fIf (tB1 (f2 (fSlot i) (toO (fLst (lNil))) (dNe))) (f2 (fSlot i) (toO (f1 (svO (fC (.int 1))) dNeg)) dIxA) Y (x :: en)) Q := by
  have hp : peek (x :: en) i = some (.list (ks.map iD)) := by unfold peek; rw [h]
  have e1 := ints_ne ks
  rcases List.eq_nil_or_concat ks with rfl | ⟨js, k, rfl⟩
  · simp at e1 hp
    simp [hp, e1]
    exact q2 rfl
  · rw [List.concat_eq_append] at *
    simp at e1 hp
    simp [hp, e1]
    exact q1 k (by simp)
theorem dEq_bool (a b : Bool) : dEq (.bool a) (.bool b) = some (.bool (decide (a = b)), false) := by
  rw [dEq_of (Sh.bool a) (Sh.bool b) (by omega) (by omega)]
  cases a <;> cases b <;> simp [PyData.eqv]
theorem while_run {t : Tv} {b : Sv} (I : Nat → En → Prop) {Q : Out × En → Prop}
    (step : ∀ n en, I n en → (t en = some (false, en) ∧ Q (.nx, en)) ∨ (t en = some (true, en) ∧ ∃ m, n = m + 1 ∧ Wp (b en) fun y => match y.1 with
      | .nx => I m y.2
      | .ct => I m y.2
      | .bk => Q (.nx, y.2)
      | .rt d c => Q (.rt d c, y.2))) (n : Nat) (en : En) (f : Nat) (h : I n en) (hf : n < f) : Wp (whileL t b f en) Q :=
  while_inv I (fun n en h => by
    rcases step n en h with ⟨e, q⟩ | ⟨e, m, hm, q⟩
    · refine ⟨_, e, ?_⟩
      show (if false = true then _ else _)
      rw [if_neg (fun z => by cases z)]
      exact q
    · refine ⟨_, e, ?_⟩
      show (if true = true then _ else _)
      rw [if_pos rfl]
      exact ⟨m, hm, q⟩) n en f h hf
/-- a comprehension whose iterator writes nothing -/
theorem wp_lcS {α : Type} {vs : List Nat} {it : Lv} {s : Gv} {t : Tv} {f : Vv} {en : En} {Q : D × Bool × En → Prop} (enc : α → D) (as : List α) (c : α → Bool) (g : α → D) (h1 : it en = some (as.map enc, en)) (hv : wipeE (wipeE en vs) vs = wipeE en vs) (hl : as.length ≤ 16777216)
    (h : ∀ a ∈ as, ∃ e, s (enc a) (wipeE en vs) = some e ∧ t e = some (c a, e) ∧ (c a = true → f e = some (g a, e)) ∧ wipeE e vs = wipeE en vs) (q : Q (.list ((as.filter c).map g), true, backE en (wipeE en vs) vs)) : Wp (fLc vs it s t f en) Q :=
  wp_fLc enc as c g h1 hv (by rw [sl_ok]; exact hl) h q
theorem itR_s {a : Av} {g : List D → Option (List D)} {en : En} {hs : List Hd} {ds rs : List D} (h1 : a en = some (hs, en)) (h2 : lates en hs = some ds) (h3 : g ds = some rs) : itR a g en = some (rs, en) := itR_at h1 h2 h3
/-! ### what a law holds alike -/
inductive Al : Nat → D → Prop
  | non {n : Nat} : Al n .none
  | bl {n : Nat} (b : Bool) : Al n (.bool b)
  | int {n : Nat} (i : Int) : Al n (.int i)
  | str {n : Nat} {x : Str} : PyData.strOk x = true → Al n (.str x)
  | tup {n : Nat} {ds : List D} : (∀ d ∈ ds, Al n d) → ds.length ≤ 100000 → Al (n + 1) (.tuple ds)
theorem Al.nil {n : Nat} : Al (n + 1) (.tuple []) := .tup (fun d hd => by cases hd) (by simp)
theorem Al.two {n : Nat} {a b : D} (h1 : Al n a) (h2 : Al n b) : Al (n + 1) (.tuple [a, b]) := .tup (fun d hd => by
  simp only [List.mem_cons, List.not_mem_nil, or_false] at hd
  rcases hd with rfl | rfl <;> assumption) (by simp)
theorem Al.three {n : Nat} {a b c : D} (h1 : Al n a) (h2 : Al n b) (h3 : Al n c) : Al (n + 1) (.tuple [a, b, c]) := .tup (fun d hd => by
  simp only [List.mem_cons, List.not_mem_nil, or_false] at hd
  rcases hd with rfl | rfl | rfl <;> assumption) (by simp)
theorem Al.four {n : Nat} {a b c e : D} (h1 : Al n a) (h2 : Al n b) (h3 : Al n c) (h4 : Al n e) : Al (n + 1) (.tuple [a, b, c, e]) := .tup (fun d hd => by
  simp only [List.mem_cons, List.not_mem_nil, or_false] at hd
  rcases hd with rfl | rfl | rfl | rfl <;> assumption) (by simp)
theorem Al.map {α : Type} {n : Nat} {f : α → D} {as : List α} (h : ∀ a ∈ as, Al n (f a)) (hl : as.length ≤ 100000) : Al (n + 1) (.tuple (as.map f)) := .tup (fun d hd => by
  obtain ⟨a, ha, rfl⟩ := List.mem_map.mp hd
  exact h a ha) (by simpa using hl)
theorem Al.mono {n m : Nat} {d : D} (h : Al n d) : n ≤ m → Al m d := by
  induction h generalizing m with
  | non => intro _; exact .non
  | bl b => intro _; exact .bl b
  | int i => intro _; exact .int i
  | str h => intro _; exact .str h
  | tup h hl ih =>
    intro hm
    obtain ⟨p, rfl⟩ : ∃ p, m = p + 1 := ⟨m - 1, by omega⟩
    exact .tup (fun d hd => ih d hd (by omega)) hl
end Fx
namespace Hd
open PySem PySem.Spec L2 Fx
def eW (dr : List Int) (n : Nat) : D := .dict [(.str "draws", .list (dr.map .int)), (.str "at", .int n)]
theorem st1 : ((Str.ofString "draws" : Str) = Str.ofString "at") = False := by
  have : ¬ ((Str.ofString "draws" : Str) = Str.ofString "at") := by decide +kernel
  simp [this]
theorem st2 : ((Str.ofString "at" : Str) = Str.ofString "draws") = False := by
  have : ¬ ((Str.ofString "at" : Str) = Str.ofString "draws") := by decide +kernel
  simp [this]
theorem next_ok (dr : List Int) (n : Nat) (m : Int) (hm : 0 < m) : F__law_next (eW dr n) [.int m] = some (.int (if h : n < dr.length then dr[n] % m else 0), false, eW dr (n + 1)) := by
  by_cases h : n < dr.length
  · have h1 : ¬ ((dr.length : Int) < (n : Int) + 1) := by omega
    simp [F__law_next, b__law_next, e_sSeq, eW, st1, st2, kD, hm, h, h1, Fx.dictGet, Fx.dictPut, atI, ixN]
  · have h1 : ((dr.length : Int) < (n : Int) + 1) := by omega
    simp [F__law_next, b__law_next, e_sSeq, eW, st1, st2, kD, hm, h, h1, Fx.dictGet, Fx.dictPut, atI, ixN]
def Ok997 (dr : List Int) : Prop := ∀ x ∈ dr, 0 ≤ x ∧ x < 997
theorem Ok997.snoc {dr : List Int} (h : Ok997 dr) (i : Int) : Ok997 (dr ++ [i % 997]) := fun x hx => by
  rcases List.mem_append.mp hx with hx | hx
  · exact h x hx
  · rw [List.mem_singleton.mp hx]
    omega
def IDr (ns : List Int) (many : Nat) (left : Nat) (en : En) : Prop := ∃ (dr : List Int) (mixed : Int) (x4 x5 x6 x7 : Option (D × Bool)), en = [some (.list (ns.map .int), .sh), some (.int many, .sh), some (.list (dr.map .int), .own), some (.int mixed, .sh), jk x4, jk x5, jk x6, jk x7] ∧ Ok997 dr ∧ dr.length + left ≤ 20000 ∧ 0 ≤ mixed ∧ mixed < 65537
theorem rng_nil (n : Nat) : rngD 0 1 n = (List.range n).map fun (i : Nat) => .int (i : Int) := by
  unfold rngD
  exact List.map_congr_left fun i _ => by simp
theorem rng_mem {n : Nat} {d : D} (h : d ∈ rngD 0 1 n) : ∃ k : Nat, d = .int k ∧ k < n := by
  rw [rng_nil] at h
  obtain ⟨i, h1, h2⟩ := List.mem_map.mp h
  exact ⟨i, h2.symm, List.mem_range.mp h1⟩
theorem rng_len (n : Nat) : (rngD 0 1 n).length = n := by rw [rng_nil]; simp
theorem atI_map {ns : List Int} {k : Nat} (h : k < ns.length) : atI (ns.map PyData.int) (k : Int) = some (.int ns[k]) := by
  simp [atI, ixN, h]
theorem app_int (dr : List Int) (i : Int) : dr.map PyData.int ++ [.int i] = (dr ++ [i]).map PyData.int := by simp
def IIn (ns : List Int) (many L : Nat) (mixed : Int) (x4 x5 : Option (D × Bool)) (en : En) : Prop := ∃ (dr : List Int) (rest : Int) (x7 : Option (D × Bool)), en = [some (.list (ns.map .int), .sh), some (.int many, .sh), some (.list (dr.map .int), .own), some (.int mixed, .sh), jk x4, jk x5, some (.int rest, .sh), jk x7] ∧ Ok997 dr ∧ dr.length + L ≤ 20000
theorem draws_in (ns : List Int) (many : Nat) (L : Nat) (mixed : Int) (x4 x5 : Option (D × Bool)) (en : En) (h : IIn ns many (L + 60) mixed x4 x5 en) :
    Wp (forL (gN 7) (sIf (tB1 (f2 (fSlot 6) (svO (fC (.int 0))) (isI iGt))) (sSeq (sExpr (fMut 2 isLst (lCons (toV (f2 (toO (fN (aCons (fSlot 6) (aNil)) dInt)) (svO (fC (.int 997))) (isI iMod))) (lNil)) mAppend)) (sSet 6 (f2 (fSlot 6) (svO (fC (.int 997))) (isI iDiv)))) (sNx)) (rngD 0 1 60) en) fun y => y.1 = .nx ∧ IIn ns many L mixed x4 x5 y.2 := by
  refine for_inv (fun ds en => IIn ns many (L + ds.length) mixed x4 x5 en) ?_ ?_ _ _ (by rw [rng_len]; exact h)
  · rintro d r en ⟨dr', rest', x7, rfl, q1, q2⟩
    rw [List.length_cons] at q2
    have hz : dr'.length < 16777216 := by omega
    by_cases hr : 0 < rest'
    · simp [hr, hz]
      refine later_i ?_
      simp
      exact ⟨dr' ++ [rest' % 997], _, some (d, false), by rw [app_int]; rfl, q1.snoc _, by simp; omega⟩
    · simp [hr]
      exact ⟨dr', _, some (d, false), rfl, q1, by omega⟩
  · intro en h
    refine ⟨rfl, ?_⟩
    rw [List.length_nil, Nat.add_zero] at h
    exact h
theorem draws_ok (ns : List Int) (hn : ns.length ≤ 63) (many : Nat) (hm : many ≤ 10000) : Wp (F__law_draws [.list (ns.map .int), .int many]) fun y => ∃ dr : List Int, Ok997 dr ∧ y = (.list (dr.map .int), true) := by
  show Wp (mk0 8 b__law_draws _) _
  rw [mk0_e, wp_bind]
  show Wp (b__law_draws [some (.list (ns.map .int), .sh), some (.int many, .sh), none, none, none, none, none, none]) _
  unfold b__law_draws
  have e1 := range1_nat (n := ns.length) (by omega)
  have e2 := range1_nat (n := many) (by omega)
  simp
  refine later_i ?_
  simp
  refine later_i ?_
  simp [e1]
  refine wp_mono (for_inv (fun ds en => IDr ns many (many + 62 * ds.length) en ∧ ∀ d ∈ ds, ∃ k : Nat, d = .int k ∧ k < ns.length) (Q := fun y => y.1 = .nx ∧ IDr ns many many y.2) ?_ ?_ _ _ ?_) ?_
  · rintro d r en ⟨⟨dr, mixed, x4, x5, x6, x7, rfl, h1, h2, h3, h4⟩, hd⟩
    obtain ⟨k, rfl, hk⟩ := hd d (List.mem_cons_self ..)
    rw [List.length_cons] at h2
    have hb : mixed.natAbs < 18446744073709551616 := by omega
    simp [atI_map hk]
    refine later_i ?_
    generalize (if ns[k] < 0 then -ns[k] else ns[k]) = cell
    simp [hb]
    have m1 : (0:Int) ≤ (mixed * 48271 + cell % 1000003 + k) % 65537 ∧ (mixed * 48271 + cell % 1000003 + k) % 65537 < 65537 := by omega
    generalize (mixed * 48271 + cell % 1000003 + (k : Int)) % 65537 = mixed' at m1 ⊢
    refine later_i ?_
    simp
    refine later_i ?_
    have hb' : mixed'.natAbs < 18446744073709551616 := by omega
    have hz : dr.length < 16777216 := by omega
    have hz' : dr.length + 1 < 16777216 := by omega
    simp
    by_cases hc : 1000000000000000000 ≤ cell
    · simp [hc]
      refine later_i ?_
      simp [inLine_le]
      refine wp_mono (draws_in ns many (many + 62 * r.length) mixed' (some (.int k, false)) (some (.int cell, false)) _ ⟨dr, cell, x7, rfl, h1, by omega⟩) ?_
      rintro ⟨o, en⟩ ⟨e, dr', rest', x7', e2, q1, q2⟩
      dsimp only at e e2
      subst e
      subst e2
      exact ⟨⟨dr', mixed', _, _, some (.int rest', false), _, rfl, q1, q2, m1.1, m1.2⟩, fun d hd' => hd d (List.mem_cons_of_mem _ hd')⟩
    · simp [hc, hz]
      refine later_i ?_
      simp [hb', hz']
      refine later_i ?_
      simp [inLine_le]
      refine wp_mono (draws_in ns many (many + 62 * r.length) mixed' (some (.int k, false)) (some (.int cell, false)) _ ⟨dr ++ [cell % 997] ++ [(mixed' * 69621 + 5) % 65521 % 997], 0, x7, by simp [jk_sh], (h1.snoc _).snoc _, by simp; omega⟩) ?_
      rintro ⟨o, en⟩ ⟨e, dr', rest', x7', e2, q1, q2⟩
      dsimp only at e e2
      subst e
      subst e2
      exact ⟨⟨dr', mixed', _, _, some (.int rest', false), _, rfl, q1, q2, m1.1, m1.2⟩, fun d hd' => hd d (List.mem_cons_of_mem _ hd')⟩
  · rintro en ⟨h, _⟩
    exact ⟨rfl, h⟩
  · exact ⟨⟨[], 7, none, none, none, none, rfl, fun x hx => (by cases hx), by rw [rng_len]; simp; omega, by omega, by omega⟩, fun d hd => rng_mem hd⟩
  · rintro ⟨o, en⟩ ⟨e, dr, mixed, x4, x5, x6, x7, e2, h1, h2, h3, h4⟩
    dsimp only at e e2
    subst e
    subst e2
    refine later_i ?_
    simp [e2]
    refine wp_mono (for_inv (fun ds en => IDr ns many ds.length en ∧ ∀ d ∈ ds, ∃ k : Nat, d = .int k ∧ k < many) (Q := fun y => y.1 = .nx ∧ IDr ns many 0 y.2) ?_ ?_ _ _ ?_) ?_
    · rintro d r en ⟨⟨dr, mixed, x4, x5, x6, x7, rfl, h1, h2, h3, h4⟩, hd⟩
      obtain ⟨k, rfl, hk⟩ := hd d (List.mem_cons_self ..)
      rw [List.length_cons] at h2
      have hb : mixed.natAbs < 18446744073709551616 := by omega
      have hz : dr.length < 16777216 := by omega
      simp [hb]
      refine later_i ?_
      simp [hz]
      exact ⟨⟨dr ++ [(mixed * 16807 + k + 1) % 65537 % 997], _, some (.int k, false), x5, x6, x7, by rw [app_int]; rfl, h1.snoc _, by simp; omega, by omega, by omega⟩, fun d hd' => hd d (List.mem_cons_of_mem _ hd')⟩
    · rintro en ⟨h, _⟩
      exact ⟨rfl, h⟩
    · exact ⟨⟨dr, mixed, x4, x5, x6, x7, rfl, h1, by rw [rng_len]; exact h2, h3, h4⟩, fun d hd => rng_mem hd⟩
    · rintro ⟨o, en⟩ ⟨e, dr, mixed, x4, x5, x6, x7, e2, h1, h2, h3, h4⟩
      dsimp only at e e2
      subst e
      subst e2
      refine later_i ?_
      simp [dSl, cutD]
      exact ⟨(dr.drop (HT.sIx dr.length 0 none)).take (HT.sIx dr.length dr.length (some (many : Int)) - HT.sIx dr.length 0 none), fun x hx => h1 x (List.mem_of_mem_drop (List.mem_of_mem_take hx)), by simp [List.map_take, List.map_drop]⟩
theorem next_ex {dr : List Int} (h : Ok997 dr) (n : Nat) (m : Int) (hm : 0 < m) : ∃ v, 0 ≤ v ∧ v < m ∧ F__law_next (eW dr n) [.int m] = some (.int v, false, eW dr (n + 1)) := by
  refine ⟨_, ?_, ?_, next_ok dr n m hm⟩
  · split
    · exact Int.emod_nonneg _ (by omega)
    · omega
  · split
    · exact Int.emod_lt_of_pos _ hm
    · exact hm
theorem next_nat {dr : List Int} (h : Ok997 dr) (n m : Nat) (hm : 0 < m) : ∃ v : Nat, v < m ∧ F__law_next (eW dr n) [.int (m : Int)] = some (.int v, false, eW dr (n + 1)) := by
  obtain ⟨v, v0, v1, e⟩ := next_ex h n m (by omega)
  exact ⟨v.toNat, by omega, by rw [e, Int.toNat_of_nonneg v0]⟩
theorem at_nat {ds : List D} {n : Nat} {d : D} (h : ds[n]? = some d) : atI ds (n : Int) = some d := by
  have hn := (List.getElem?_eq_some_iff.mp h).1
  unfold atI ixN
  rw [if_pos (by omega), if_pos (by omega), Int.toNat_natCast]
  exact h
@[simp] theorem at0 {d : D} {ds : List D} : atI (d :: ds) 0 = some d := at_nat (n := 0) rfl
@[simp] theorem at1 {d e : D} {ds : List D} : atI (d :: e :: ds) 1 = some e := at_nat (n := 1) rfl
@[simp] theorem at2 {d e f : D} {ds : List D} : atI (d :: e :: f :: ds) 2 = some f := at_nat (n := 2) rfl
@[simp] theorem e_fMeth (p : Ov) (c : D → Bool) (l : Av) (g : D → List D → Option (D × Bool)) (x : Option (D × Fl)) (en : En) : fMeth p c l g (x :: en) = (p (x :: en)).bind fun x => (x.1.late x.2).bind fun d0 => if c d0 = true then (l x.2).bind fun y => (x.1.late y.2).bind fun d => (lates y.2 y.1).bind fun ds => (g d ds).map fun z => (z.1, z.2, y.2) else none := id rfl
theorem e_itZ (l : Lv) (x : Option (D × Fl)) (en : En) : itZ l (x :: en) = (l (x :: en)).bind fun x => match x.1 with
  | [.list ds, .list es] => some (zipD ds es, x.2)
  | _ => none := id rfl
@[simp] theorem isBD_b (c b : Bool) : isBD c (.bool b) = (b == c) := id rfl
@[simp] theorem isBD_n (c : Bool) : isBD c .none = false := id rfl
end Hd
namespace Hd
open PySem PySem.Spec L2 Fx
/-! ### tables of numbers -/
def tD (ks : List (Key × Int)) : List (D × D) := ks.map fun q => (kD q.1, .int q.2)
def tget (ks : List (Key × Int)) (k : Key) : Int := ((ks.find? fun q => decide (q.1 = k)).map (·.2)).getD 0
def tput (ks : List (Key × Int)) (k : Key) (i : Int) : List (Key × Int) := if (ks.any fun q => decide (q.1 = k)) = true then ks.map (fun q => if q.1 = k then (q.1, i) else q) else ks ++ [(k, i)]
theorem dictGet_tD (ks : List (Key × Int)) (k : Key) : Fx.dictGet (tD ks) k = (ks.find? fun q => decide (q.1 = k)).map fun q => .int q.2 := by
  unfold Fx.dictGet tD
  rw [List.find?_map, Option.map_map]
  have : ((fun p : D × D => decide (keyOf p.1 = some k)) ∘ fun q : Key × Int => (kD q.1, PyData.int q.2)) = fun q => decide (q.1 = k) := funext fun q => by
    simp [keyOf_kD]
  rw [this]
  rfl
theorem dictPut_tD (ks : List (Key × Int)) (k : Key) (i : Int) : Fx.dictPut (tD ks) k (.int i) = tD (tput ks k i) := by
  unfold Fx.dictPut tD tput
  have : ((fun p : D × D => decide (keyOf p.1 = some k)) ∘ fun q : Key × Int => (kD q.1, PyData.int q.2)) = fun q => decide (q.1 = k) := funext fun q => by
    simp [keyOf_kD]
  rw [List.any_map, this]
  split
  · rw [List.map_map, List.map_map]
    refine List.map_congr_left fun q _ => ?_
    simp only [Function.comp, keyOf_kD, Option.some.injEq]
    split <;> rfl
  · rw [List.map_append]
    rfl
theorem dGetM_tD (ks : List (Key × Int)) {x : D} {k : Key} (hk : keyOf x = some k) : dGetM (.dict (tD ks)) [x, .int 0] = some (.int (tget ks k), false) := by
  show ((keyOf x).bind _) = _
  rw [hk, Option.bind_some, dictGet_tD]
  unfold tget
  cases (ks.find? fun q => decide (q.1 = k)) <;> rfl
@[simp] theorem dGetM_tDi (ks : List (Key × Int)) (i : Int) : dGetM (.dict (tD ks)) [.int i, .int 0] = some (.int (tget ks (.inl i)), false) := dGetM_tD ks rfl
@[simp] theorem dGetM_tDs (ks : List (Key × Int)) (i : Str) : dGetM (.dict (tD ks)) [.str i, .int 0] = some (.int (tget ks (.inr i)), false) := dGetM_tD ks rfl
theorem dictGet_mem {ks : List (Key × Int)} {k : Key} (h : k ∈ ks.map (·.1)) : Fx.dictGet (tD ks) k = some (.int (tget ks k)) := by
  rw [dictGet_tD]
  unfold tget
  obtain ⟨q, hq, rfl⟩ := List.mem_map.mp h
  cases e : ks.find? fun p => decide (p.1 = q.1) with
  | none => exact absurd (List.find?_eq_none.mp e q hq) (by simp)
  | some p => rfl
def tmk (ks : List (Key × Int)) : List (Key × Int) := ks.foldl (fun a q => tput a q.1 q.2) []
theorem mergeD_tD : ∀ (ks a : List (Key × Int)), mergeD (tD a) (ks.map fun q => (q.1, .int q.2)) = tD (ks.foldl (fun a q => tput a q.1 q.2) a)
  | [], _ => rfl
  | q :: ks, a => by
    show mergeD (Fx.dictPut (tD a) q.1 (.int q.2)) (ks.map fun q => (q.1, .int q.2)) = _
    rw [dictPut_tD]
    exact mergeD_tD ks _
def eP (q : Key × Int) : D := .tuple [kD q.1, .int q.2]
theorem pairsOf_eP (ks : List (Key × Int)) : pairsOf (ks.map eP) = some (ks.map fun q => (q.1, .int q.2)) := by
  induction ks with
  | nil => rfl
  | cons q ks ih =>
    rw [List.map_cons]
    show ((keyOf (kD q.1)).bind fun k => (pairsOf (ks.map eP)).map fun t => (k, PyData.int q.2) :: t) = _
    rw [keyOf_kD, ih]
    rfl
@[simp] theorem dDict_eP (ks : List (Key × Int)) : dDict [.tuple (ks.map eP)] = some (.dict (tD (tmk ks)), true) := by
  show ((pairsOf (ks.map eP)).map _) = _
  rw [pairsOf_eP]
  show some (PyData.dict (mergeD (tD []) _), true) = _
  rw [mergeD_tD]
  rfl
@[simp] theorem dDict_ePl (ks : List (Key × Int)) : dDict [.list (ks.map eP)] = some (.dict (tD (tmk ks)), true) := by
  show ((pairsOf (ks.map eP)).map _) = _
  rw [pairsOf_eP]
  show some (PyData.dict (mergeD (tD []) _), true) = _
  rw [mergeD_tD]
  rfl
/-- keys of one kind -/
def KO (ks : List Key) : Prop := (∀ k ∈ ks, ∃ i : Int, k = .inl i) ∨ (∀ k ∈ ks, ∃ x : Str, k = .inr x ∧ PyData.strOk x = true)
theorem tput_keys {ks : List (Key × Int)} {k : Key} {i : Int} {j : Key} (h : j ∈ (tput ks k i).map (·.1)) : j = k ∨ j ∈ ks.map (·.1) := by
  unfold tput at h
  split at h
  · rw [List.map_map] at h
    obtain ⟨q, hq, e⟩ := List.mem_map.mp h
    refine .inr (List.mem_map.mpr ⟨q, hq, ?_⟩)
    rw [← e]
    simp only [Function.comp]
    split <;> rfl
  · rw [List.map_append, List.mem_append] at h
    rcases h with h | h
    · exact .inr h
    · exact .inl (by simpa using h)
theorem tput_len (ks : List (Key × Int)) (k : Key) (i : Int) : (tput ks k i).length ≤ ks.length + 1 := by
  unfold tput
  split <;> simp
theorem tmk_go : ∀ (ks a : List (Key × Int)) (j : Key), j ∈ (ks.foldl (fun a q => tput a q.1 q.2) a).map (·.1) → j ∈ ks.map (·.1) ∨ j ∈ a.map (·.1)
  | [], _, _, h => .inr h
  | q :: ks, a, j, h => by
    rcases tmk_go ks _ j h with h | h
    · exact .inl (by simp only [List.map_cons, List.mem_cons]; exact .inr h)
    · rcases tput_keys h with h | h
      · exact .inl (by simp [h])
      · exact .inr h
theorem tmk_keys {ks : List (Key × Int)} {j : Key} (h : j ∈ (tmk ks).map (·.1)) : j ∈ ks.map (·.1) := by
  rcases tmk_go ks [] j h with h | h
  · exact h
  · cases h
theorem tmk_len_go : ∀ (ks a : List (Key × Int)), (ks.foldl (fun a q => tput a q.1 q.2) a).length ≤ ks.length + a.length
  | [], _ => by simp
  | q :: ks, a => by
    have h1 := tmk_len_go ks (tput a q.1 q.2)
    have h2 := tput_len a q.1 q.2
    simp only [List.foldl_cons, List.length_cons]
    omega
theorem tmk_len (ks : List (Key × Int)) : (tmk ks).length ≤ ks.length := by
  exact Nat.le_trans (tmk_len_go ks []) (by simp)
def srtK (ks : List Key) : List Key := ks.mergeSort fun a b => PySem.W.dataLe false (fun d : D => d) (kD a) (kD b)
theorem srtD_kD (ks : List Key) : srtD (ks.map kD) = (srtK ks).map kD := by
  unfold srtD srtK
  rw [List.map_mergeSort]
  intro a _ b _
  rfl
theorem srtK_perm (ks : List Key) : (srtK ks).Perm ks := List.mergeSort_perm ks _
theorem sh_key {k : Key} (h : (∃ i : Int, k = .inl i) ∨ ∃ x : Str, k = .inr x ∧ PyData.strOk x = true) : Sh 0 (kD k) := by
  rcases h with ⟨i, rfl⟩ | ⟨x, rfl, h⟩
  · exact Sh.int i
  · exact Sh.str x h
theorem KO.sh {ks : List Key} (h : KO ks) : ∀ k ∈ ks, Sh 0 (kD k) := fun k hk => by
  rcases h with h | h
  · exact sh_key (.inl (h k hk))
  · exact sh_key (.inr (h k hk))
theorem sortOk_keys {ks : List Key} (h : KO ks) (hl : ks.length ≤ sizeLine) : sortOk (ks.map kD) = true := by
  unfold sortOk
  simp only [Bool.and_eq_true, Bool.or_eq_true, List.all_eq_true, decide_eq_true_eq, List.length_map]
  rcases h with h | h
  · refine ⟨⟨⟨hl, fun d hd e he => ?_⟩, .inr fun d hd => ?_⟩, fun d hd => ?_⟩
    · obtain ⟨i, hi, rfl⟩ := List.mem_map.mp hd
      obtain ⟨j, hj, rfl⟩ := List.mem_map.mp he
      obtain ⟨i, rfl⟩ := h i hi
      obtain ⟨j, rfl⟩ := h j hj
      simp [PySem.W.alike, kD]
    · obtain ⟨i, hi, rfl⟩ := List.mem_map.mp hd
      obtain ⟨i, rfl⟩ := h i hi
      rfl
    · obtain ⟨i, hi, rfl⟩ := List.mem_map.mp hd
      obtain ⟨i, rfl⟩ := h i hi
      show 0 < 40
      omega
  · refine ⟨⟨⟨hl, fun d hd e he => ?_⟩, .inr fun d hd => ?_⟩, fun d hd => ?_⟩
    · obtain ⟨i, hi, rfl⟩ := List.mem_map.mp hd
      obtain ⟨j, hj, rfl⟩ := List.mem_map.mp he
      obtain ⟨i, rfl, _⟩ := h i hi
      obtain ⟨j, rfl, _⟩ := h j hj
      simp [PySem.W.alike, kD]
    · obtain ⟨i, hi, rfl⟩ := List.mem_map.mp hd
      obtain ⟨i, rfl, _⟩ := h i hi
      rfl
    · obtain ⟨i, hi, rfl⟩ := List.mem_map.mp hd
      obtain ⟨i, rfl, _⟩ := h i hi
      show 0 < 40
      omega
theorem dSort_tD {ks : List (Key × Int)} (h : KO (ks.map (·.1))) (hl : ks.length ≤ 16777216) : dSort [.dict (tD ks)] = some (.list ((srtK (ks.map (·.1))).map kD), true) := by
  have e : (tD ks).map (·.1) = (ks.map (·.1)).map kD := by
    unfold tD
    rw [List.map_map, List.map_map]
    rfl
  show (if sortOk ((tD ks).map (·.1)) = true ∧ layOk ((tD ks).map (·.1)) = true then _ else _) = _
  rw [e, if_pos ⟨sortOk_keys h (by rw [List.length_map, sl_ok]; exact hl), List.all_eq_true.mpr fun d hd => by
    obtain ⟨k, hk, rfl⟩ := List.mem_map.mp hd
    exact (h.sh k hk).c⟩, srtD_kD]

/-! ### names and samples -/
def nm : Nat → Str
  | 0 => Str.ofString "a"
  | 1 => Str.ofString "b2"
  | 2 => Str.ofString "c"
  | _ => Str.ofString "d"
def nk (i : Nat) : Key := .inr (nm i)
theorem nm_inj {i j : Nat} (hi : i < 4) (hj : j < 4) (h : nm i = nm j) : i = j := by
  have key : ∀ i < 4, ∀ j < 4, nm i = nm j → i = j := by decide +kernel
  exact key i hi j hj h
theorem nm_ok (i : Nat) : PyData.strOk (nm i) = true := by
  unfold nm
  split <;> exact ofS_ok _
theorem dget {g : Nat → D} : ∀ {js : List Nat} {i : Nat}, i ∈ js → (∀ j ∈ js, j < 4) → Fx.dictGet (js.map fun i => (.str (nm i), g i)) (.inr (nm i)) = some (g i)
  | [], _, h, _ => by cases h
  | j :: js, i, h, hj => by
    unfold Fx.dictGet
    rw [List.map_cons]
    by_cases e : j = i
    · subst e
      rw [List.find?_cons_of_pos (by simp)]
      rfl
    · have hi : i ∈ js := by
        rcases List.mem_cons.mp h with h | h
        · exact absurd h.symm e
        · exact h
      have hne : ¬ nm j = nm i := fun z => e (nm_inj (hj j (List.mem_cons_self ..)) (hj i (List.mem_cons_of_mem _ hi)) z)
      rw [List.find?_cons_of_neg (by simpa using hne)]
      exact dget hi fun j h => hj j (List.mem_cons_of_mem _ h)
def rg (m : Nat) : List Nat := List.range m
def NM (m : Nat) : List D := (rg m).map fun i => .str (nm i)
abbrev Sm := Nat → Int
def sD (m : Nat) (f : Sm) : List (Key × Int) := (rg m).reverse.map fun i => (nk i, f i)
def eT (m : Nat) (f : Sm) : D := .dict (tD (sD m f))
theorem tD_sD (m : Nat) (f : Sm) : tD (sD m f) = (rg m).reverse.map fun i => (.str (nm i), .int (f i)) := by
  unfold tD sD
  rw [List.map_map]
  rfl
theorem sget {m : Nat} (hm : m ≤ 4) (f : Sm) {i : Nat} (hi : i < m) : Fx.dictGet (tD (sD m f)) (.inr (nm i)) = some (.int (f i)) := by
  rw [tD_sD]
  exact dget (List.mem_reverse.mpr (List.mem_range.mpr hi)) fun j hj => Nat.lt_of_lt_of_le (List.mem_range.mp (List.mem_reverse.mp hj)) hm
theorem nks_sorted : ((rg 4).map nk).Pairwise fun a b => PySem.W.dataLe false (fun d : D => d) (kD a) (kD b) = true := by
  decide +kernel
theorem srt_nk {m : Nat} (hm : m ≤ 4) : srtK ((rg m).map nk) = (rg m).map nk := by
  unfold srtK
  refine List.mergeSort_of_pairwise ?_
  refine nks_sorted.sublist (List.Sublist.map _ ?_)
  unfold rg
  exact List.range_sublist.mpr hm
theorem one_nk (js : List Nat) : oneKind (js.map nk) = true := by
  unfold oneKind
  rw [Bool.or_eq_true]
  exact .inr (List.all_eq_true.mpr fun k hk => by
    obtain ⟨i, _, rfl⟩ := List.mem_map.mp hk
    rfl)
theorem sort_e {m : Nat} (hm : m ≤ 4) (f : Sm) : dSort [eT m f] = some (.list (NM m), true) := by
  have hk : (sD m f).map (·.1) = (rg m).reverse.map nk := by
    unfold sD
    rw [List.map_map]
    rfl
  have ko : KO ((sD m f).map (·.1)) := .inr fun k hk' => by
    rw [hk] at hk'
    obtain ⟨i, _, rfl⟩ := List.mem_map.mp hk'
    exact ⟨_, rfl, nm_ok i⟩
  unfold eT
  rw [dSort_tD ko (by unfold sD rg; simp; omega), hk]
  have e : (srtK ((rg m).reverse.map nk)).map kD = ((rg m).map nk).map kD := by
    rw [← srtD_kD, srt_perm (((rg m).reverse_perm).map nk) (one_nk _), srtD_kD, srt_nk hm]
  rw [e]
  unfold NM
  rw [List.map_map]
  rfl
def eL (m : Nat) (L : List Sm) : D := .tuple (L.map (eT m))
end Hd
namespace Hd
open PySem PySem.Spec L2 Fx
theorem e_itE (f : Vv) (x : Option (D × Fl)) (en : En) : itE f (x :: en) = (f (x :: en)).bind fun z => (seqE z.1).map fun ds => (ds, z.2) := id rfl
@[simp] theorem seqE_d (es : List (D × D)) : seqE (.dict es) = some (es.map (·.1)) := id rfl
@[simp] theorem seqE_t (ds : List D) : seqE (.tuple ds) = some ds := id rfl
@[simp] theorem seqE_l (ds : List D) : seqE (.list ds) = some ds := id rfl
theorem boolsD_map {α : Type} (f : α → Bool) : ∀ l : List α, boolsD (l.map fun i => .bool (f i)) = some (l.map f)
  | [] => rfl
  | a :: l => by
    show (boolsD (l.map fun i => .bool (f i))).map (fun is => f a :: is) = _
    rw [boolsD_map f l]
    rfl
theorem dAll_map {α : Type} (f : α → Bool) (l : List α) : dAll [.list (l.map fun i => .bool (f i))] = some (.bool (l.all f), false) := by
  show (boolsD (l.map fun i => .bool (f i))).map _ = _
  rw [boolsD_map]
  simp
/-! ### dicts by names -/
def B4 (l : List Nat) : Prop := ∀ i ∈ l, i < 4
def dN (g : Nat → D) (ks : List Nat) : List (D × D) := ks.map fun i => (.str (nm i), g i)
theorem dgetN (g : Nat → D) {ks : List Nat} (hb : B4 ks) {i : Nat} (hi : i < 4) : Fx.dictGet (dN g ks) (.inr (nm i)) = if i ∈ ks then some (g i) else none := by
  by_cases h : i ∈ ks
  · rw [if_pos h]
    exact dget h hb
  · rw [if_neg h]
    unfold Fx.dictGet dN
    have : (ks.map fun i => ((.str (nm i), g i) : D × D)).find? (fun p => decide (Fx.keyOf p.1 = some (.inr (nm i)))) = none := by
      rw [List.find?_eq_none]
      intro p hp e
      obtain ⟨j, hj, rfl⟩ := List.mem_map.mp hp
      have : nm j = nm i := by simpa using e
      exact h (nm_inj (hb j hj) hi this ▸ hj)
    rw [this]
    rfl
theorem pairs_names (g : Nat → D) : ∀ ks : List Nat, pairsOf (ks.map fun i => PyData.tuple [.str (nm i), g i]) = some (ks.map fun i => (.inr (nm i), g i))
  | [] => rfl
  | k :: ks => by
    show ((Fx.keyOf (.str (nm k))).bind fun q => (pairsOf (ks.map fun i => PyData.tuple [.str (nm i), g i])).map fun t => (q, g k) :: t) = _
    rw [pairs_names g ks]
    rfl
theorem put_new (g : Nat → D) {acc : List Nat} {k : Nat} (hb : B4 acc) (hk : k < 4) (hn : k ∉ acc) : Fx.dictPut (dN g acc) (.inr (nm k)) (g k) = dN g (acc ++ [k]) := by
  unfold Fx.dictPut
  rw [if_neg]
  · unfold dN
    rw [List.map_append]
    rfl
  · intro z
    obtain ⟨p, hp, e⟩ := List.any_eq_true.mp z
    obtain ⟨j, hj, rfl⟩ := List.mem_map.mp hp
    have : nm j = nm k := by simpa using e
    exact hn (nm_inj (hb j hj) hk this ▸ hj)
theorem merge_new (g : Nat → D) : ∀ (ks acc : List Nat), (acc ++ ks).Nodup → B4 (acc ++ ks) → mergeD (dN g acc) (ks.map fun i => (.inr (nm i), g i)) = dN g (acc ++ ks)
  | [], acc, _, _ => by rw [List.append_nil]; rfl
  | k :: ks, acc, nd, hb => by
    have hn : k ∉ acc := fun z => (List.nodup_append.mp nd).2.2 k z k (List.mem_cons_self ..) rfl
    have e := put_new g (acc := acc) (k := k) (fun i hi => hb i (List.mem_append_left _ hi)) (hb k (by simp)) hn
    show mergeD (Fx.dictPut (dN g acc) (.inr (nm k)) (g k)) (ks.map fun i => (.inr (nm i), g i)) = _
    rw [e, merge_new g ks (acc ++ [k]) (by rw [List.append_assoc]; exact nd) (by rw [List.append_assoc]; exact hb), List.append_assoc]
    rfl
theorem dDict_names (g : Nat → D) {ks : List Nat} (nd : ks.Nodup) (hb : B4 ks) : dDict [.list (ks.map fun i => PyData.tuple [.str (nm i), g i])] = some (.dict (dN g ks), true) := by
  show ((pairsOf (ks.map fun i => PyData.tuple [.str (nm i), g i])).map fun ps => (PyData.dict (mergeD [] ps), true)) = _
  rw [pairs_names]
  have := merge_new g ks [] (by simpa using nd) (by simpa using hb)
  rw [Option.map_some]
  exact congrArg (fun x => some (PyData.dict x, true)) this
/-! ### good samples -/
structure GL (m : Nat) (L : List Sm) : Prop where
  m1 : 1 ≤ m
  m4 : m ≤ 4
  l1 : L ≠ []
  l5 : L.length ≤ 5
  bd : ∀ f ∈ L, ∀ i, i < m → -20 ≤ f i ∧ f i ≤ 19
theorem rg_lt {m i : Nat} (h : i ∈ rg m) : i < m := List.mem_range.mp h
theorem GL.b4 {m : Nat} {L : List Sm} (h : GL m L) (c : Nat → Bool) : B4 ((rg m).filter c) := fun i hi => Nat.lt_of_lt_of_le (rg_lt (List.mem_filter.mp hi).1) h.m4
theorem rg_nd (m : Nat) (c : Nat → Bool) : ((rg m).filter c).Nodup := List.Pairwise.filter _ List.nodup_range
def hd0 (L : List Sm) : Sm := L.headD fun _ => 0
theorem GL.cons {m : Nat} {L : List Sm} (h : GL m L) : ∃ f r, L = f :: r ∧ hd0 L = f := by
  cases L with
  | nil => exact absurd rfl h.l1
  | cons f r => exact ⟨f, r, rfl, rfl⟩
theorem eL_0 {m : Nat} {L : List Sm} (h : GL m L) : dIxA (eL m L) (.int 0) = some (eT m (hd0 L), false) := by
  obtain ⟨f, r, rfl, e⟩ := h.cons
  rw [e]
  unfold eL
  simp
theorem ix_e {m : Nat} (hm : m ≤ 4) (f : Sm) {i : Nat} (hi : i < m) : dIxA (eT m f) (.str (nm i)) = some (.int (f i), false) := by
  have := sget hm f hi
  unfold eT
  simp [this]
def inL (L : List Sm) (i : Nat) : List Int := L.map fun f => f i
theorem sort_NM {m : Nat} {L : List Sm} (h : GL m L) : dSort [eT m (hd0 L)] = some (.list (NM m), true) := sort_e h.m4 _
theorem rg_len (m : Nat) : (rg m).length = m := List.length_range
/-! ### never_zero -/
theorem never_ok {m : Nat} {L : List Sm} (h : GL m L) : F_never_zero [eL m L] = some (.tuple (((rg m).filter fun i => L.all fun f => !decide (f i = 0)).map fun i => .str (nm i)), false) := by
  have e0 := eL_0 h
  have es := sort_NM h
  have hm := h.m4
  have hl := h.l5
  refine wp_val ?_
  show Wp (mk0 3 b_never_zero _) _
  rw [mk0_e, wp_bind]
  show Wp (b_never_zero [some (eL m L, .sh), none, none]) _
  unfold b_never_zero
  have lc1 : ∀ i, i < m → fLc [2] (itV (fName 0)) (gN 2) (tTrue) (toV (f2 (toO (f2 (fSlot 2) (fSlot 1) dIxA)) (svO (fC (.int 0))) (dNe))) [some (eL m L, .sh), some (.str (nm i), .sh), none] = some (.list (L.map fun f => .bool (!decide (f i = 0))), true, [some (eL m L, .sh), some (.str (nm i), .sh), none]) := fun i hi => by
    refine (fLc_typ (eT m) L (fun _ => true) (fun f => .bool (!decide (f i = 0))) (en1 := [some (eL m L, .sh), some (.str (nm i), .sh), none]) ?_ rfl rfl (by rw [sl_ok]; omega) (fun f hf => ?_)).trans (by rw [filt_true]; rfl)
    · rw [e_itV]
      simp [eL]
    · have := ix_e hm f hi
      generalize eT m f = S1 at *
      generalize eL m L = S2 at *
      refine ⟨[some (S2, .sh), some (.str (nm i), .sh), some (S1, .sh)], ?_, ?_, fun _ => ?_, rfl⟩
      · simp [wipeE]
      · simp
      · simp [this, dNe_int]
  generalize eL m L = S2 at *
  have lc : fLc [1] (itV (toV (fN (aCons (toO (f2 (fSlot 0) (svO (fC (.int 0))) dIxA)) (aNil)) dSort))) (gN 1) (tB1 (fN (aCons (toO (fLc [2] (itV (fName 0)) (gN 2) (tTrue) (toV (f2 (toO (f2 (fSlot 2) (fSlot 1) dIxA)) (svO (fC (.int 0))) (dNe))))) (aNil)) dAll)) (fName 1) [some (S2, .sh), none, none] = some (.list (((rg m).filter fun i => L.all fun f => !decide (f i = 0)).map fun i => .str (nm i)), true, [some (S2, .sh), none, none]) := by
    refine (fLc_typ (fun i => .str (nm i)) (rg m) (fun i => L.all fun f => !decide (f i = 0)) (fun i => .str (nm i)) (en1 := [some (S2, .sh), none, none]) ?_ rfl rfl (by rw [sl_ok, rg_len]; omega) (fun i hi => ?_)).trans rfl
    · rw [e_itV]
      simp [e0, es, NM]
    · have h1 := lc1 i (rg_lt hi)
      have h2 := dAll_map (fun f : Sm => !decide (f i = 0)) L
      refine ⟨[some (S2, .sh), some (.str (nm i), .sh), none], ?_, ?_, fun _ => ?_, rfl⟩
      · simp [wipeE]
      · simp [h1, h2, -List.all_map]
      · simp
  simp [lc]
end Hd
namespace Hd
open PySem PySem.Spec L2 Fx
/-! ### the least and the most of whole numbers -/
theorem minD_mem {P : D → Prop} : ∀ (ds : List D) (d : D), P d → (∀ x ∈ ds, P x) → P (PySem.W.minD d ds)
  | [], d, h, _ => h
  | y :: ds, d, h, hs => by
    have ih := fun o => minD_mem (P := P) ds o
    unfold PySem.W.minD at *
    rw [List.foldl_cons]
    split
    · exact ih y (hs y (List.mem_cons_self ..)) fun x hx => hs x (List.mem_cons_of_mem _ hx)
    · exact ih d h fun x hx => hs x (List.mem_cons_of_mem _ hx)
theorem maxD_mem {P : D → Prop} : ∀ (ds : List D) (d : D), P d → (∀ x ∈ ds, P x) → P (PySem.W.maxD d ds)
  | [], d, h, _ => h
  | y :: ds, d, h, hs => by
    have ih := fun o => maxD_mem (P := P) ds o
    unfold PySem.W.maxD at *
    rw [List.foldl_cons]
    split
    · exact ih y (hs y (List.mem_cons_self ..)) fun x hx => hs x (List.mem_cons_of_mem _ hx)
    · exact ih d h fun x hx => hs x (List.mem_cons_of_mem _ hx)
def toI : D → Int
  | .int i => i
  | _ => 0
def mnI : List Int → Int
  | [] => 0
  | i :: r => toI (PySem.W.minD (.int i) (r.map .int))
def mxI : List Int → Int
  | [] => 0
  | i :: r => toI (PySem.W.maxD (.int i) (r.map .int))
theorem pickOk_ints (is : List Int) : pickOk (is.map .int) = true := by
  unfold pickOk
  rw [Bool.and_eq_true, Bool.and_eq_true, Bool.and_eq_true]
  refine ⟨⟨⟨?_, ?_⟩, List.all_eq_true.mpr fun d hd => ?_⟩, List.all_eq_true.mpr fun d hd => decide_eq_true ?_⟩
  · refine List.all_eq_true.mpr fun d hd => List.all_eq_true.mpr fun e he => ?_
    obtain ⟨i, _, rfl⟩ := List.mem_map.mp hd
    obtain ⟨j, _, rfl⟩ := List.mem_map.mp he
    simp [PySem.W.alike]
  · refine List.all_eq_true.mpr fun d hd => ?_
    obtain ⟨i, _, rfl⟩ := List.mem_map.mp hd
    rfl
  · obtain ⟨i, _, rfl⟩ := List.mem_map.mp hd
    exact (Sh.int i).c
  · obtain ⟨i, _, rfl⟩ := List.mem_map.mp hd
    have := (Sh.int i).p
    omega
theorem min_ints {is : List Int} (h : is ≠ []) : dPick PySem.W.minD [.list (is.map .int)] = some (.int (mnI is), false) := by
  cases is with
  | nil => exact absurd rfl h
  | cons i r =>
    have ok : pickOk (.int i :: r.map .int) = true := pickOk_ints (i :: r)
    show (if pickOk (.int i :: r.map .int) = true then some (PySem.W.minD (.int i) (r.map .int), false) else none) = _
    rw [if_pos ok]
    obtain ⟨k, hk⟩ := minD_mem (P := fun d => ∃ k : Int, d = .int k) (r.map .int) (.int i) ⟨i, rfl⟩ fun x hx => by
      obtain ⟨j, _, rfl⟩ := List.mem_map.mp hx
      exact ⟨j, rfl⟩
    have e : mnI (i :: r) = k := by
      show toI (PySem.W.minD (.int i) (r.map .int)) = k
      rw [hk]
      rfl
    rw [e, hk]
theorem max_ints {is : List Int} (h : is ≠ []) : dPick PySem.W.maxD [.list (is.map .int)] = some (.int (mxI is), false) := by
  cases is with
  | nil => exact absurd rfl h
  | cons i r =>
    have ok : pickOk (.int i :: r.map .int) = true := pickOk_ints (i :: r)
    show (if pickOk (.int i :: r.map .int) = true then some (PySem.W.maxD (.int i) (r.map .int), false) else none) = _
    rw [if_pos ok]
    obtain ⟨k, hk⟩ := maxD_mem (P := fun d => ∃ k : Int, d = .int k) (r.map .int) (.int i) ⟨i, rfl⟩ fun x hx => by
      obtain ⟨j, _, rfl⟩ := List.mem_map.mp hx
      exact ⟨j, rfl⟩
    have e : mxI (i :: r) = k := by
      show toI (PySem.W.maxD (.int i) (r.map .int)) = k
      rw [hk]
      rfl
    rw [e, hk]
theorem GL.inL {m : Nat} {L : List Sm} (h : GL m L) (i : Nat) : inL L i ≠ [] := fun e => h.l1 (List.map_eq_nil_iff.mp e)
/-! ### constants -/
def stl (m : Nat) (L : List Sm) : List Nat := (rg m).filter fun i => L.all fun f => decide (f i = hd0 L i)
theorem const_ok {m : Nat} {L : List Sm} (h : GL m L) : F_constants [eL m L] = some (.dict (dN (fun i => .int (hd0 L i)) (stl m L)), true) := by
  have e0 := eL_0 h
  have es := sort_NM h
  have hm := h.m4
  have hl := h.l5
  have dd := dDict_names (fun i => .int (hd0 L i)) (rg_nd m fun i => L.all fun f => decide (f i = hd0 L i)) (h.b4 _)
  refine wp_val ?_
  show Wp (mk0 4 b_constants _) _
  rw [mk0_e, wp_bind]
  show Wp (b_constants [some (eL m L, .sh), none, none, none]) _
  unfold b_constants
  have lc1 : ∀ i, i < m → fLc [3] (itV (fName 0)) (gN 3) (tTrue) (toV (f2 (toO (f2 (fSlot 3) (fSlot 2) dIxA)) (toO (f2 (fSlot 1) (fSlot 2) dIxA)) (dEq))) [some (eL m L, .sh), some (eT m (hd0 L), .sh), some (.str (nm i), .sh), none] = some (.list (L.map fun f => .bool (decide (f i = hd0 L i))), true, [some (eL m L, .sh), some (eT m (hd0 L), .sh), some (.str (nm i), .sh), none]) := fun i hi => by
    refine (fLc_typ (eT m) L (fun _ => true) (fun f => .bool (decide (f i = hd0 L i))) (en1 := [some (eL m L, .sh), some (eT m (hd0 L), .sh), some (.str (nm i), .sh), none]) ?_ rfl rfl (by rw [sl_ok]; omega) (fun f hf => ?_)).trans (by rw [filt_true]; rfl)
    · rw [e_itV]
      simp [eL]
    · have h1 := ix_e hm f hi
      have h2 := ix_e hm (hd0 L) hi
      generalize eT m (hd0 L) = S3 at *
      generalize eT m f = S1 at *
      generalize eL m L = S2 at *
      refine ⟨[some (S2, .sh), some (S3, .sh), some (.str (nm i), .sh), some (S1, .sh)], ?_, ?_, fun _ => ?_, rfl⟩
      · simp [wipeE]
      · simp
      · simp [h1, h2, dEq_int]
  have ix0 := fun i hi => ix_e hm (hd0 L) (i := i) hi
  generalize eL m L = S2 at *
  generalize eT m (hd0 L) = S3 at *
  have lc : fLc [2] (itV (toV (fN (aCons (fSlot 1) (aNil)) dSort))) (gN 2) (tB1 (fN (aCons (toO (fLc [3] (itV (fName 0)) (gN 3) (tTrue) (toV (f2 (toO (f2 (fSlot 3) (fSlot 2) dIxA)) (toO (f2 (fSlot 1) (fSlot 2) dIxA)) (dEq))))) (aNil)) dAll)) (fTup (lCons (fName 2) (lCons (toV (f2 (fSlot 1) (fSlot 2) dIxA)) (lNil)))) [some (S2, .sh), some (S3, .sh), none, none] = some (.list ((stl m L).map fun i => PyData.tuple [.str (nm i), .int (hd0 L i)]), true, [some (S2, .sh), some (S3, .sh), none, none]) := by
    refine (fLc_typ (fun i => .str (nm i)) (rg m) (fun i => L.all fun f => decide (f i = hd0 L i)) (fun i => PyData.tuple [.str (nm i), .int (hd0 L i)]) (en1 := [some (S2, .sh), some (S3, .sh), none, none]) ?_ rfl rfl (by rw [sl_ok, rg_len]; omega) (fun i hi => ?_)).trans rfl
    · rw [e_itV]
      simp [es, NM]
    · have h1 := lc1 i (rg_lt hi)
      have h2 := dAll_map (fun f : Sm => decide (f i = hd0 L i)) L
      have h3 := ix0 i (rg_lt hi)
      refine ⟨[some (S2, .sh), some (S3, .sh), some (.str (nm i), .sh), none], ?_, ?_, fun _ => ?_, rfl⟩
      · simp [wipeE]
      · simp [h1, h2, -List.all_map]
      · simp [h3]
  rw [wp_sSeq]
  simp [e0]
  refine later_i ?_
  simp [lc]
  exact wp_of dd ⟨rfl, rfl⟩
/-! ### ranges -/
/-- a dict that is filled name by name -/
def IDn (g : Nat → D) (c : Nat → Bool) (m : Nat) (fix : D → En) (ds : List D) (P : En → Prop) (en : En) : Prop := ∃ don rest : List Nat, don ++ rest = rg m ∧ ds = (rest.map fun i => .str (nm i)) ∧ P en
def gR (L : List Sm) (i : Nat) : D := .tuple [.int (mnI (inL L i)), .int (mxI (inL L i))]
def IRg (m : Nat) (L : List Sm) (S2 : D) (ds : List D) (en : En) : Prop := ∃ (don rest : List Nat) (x2 x3 : Option (D × Bool)), don ++ rest = rg m ∧ ds = (rest.map fun i => .str (nm i)) ∧ en = [some (S2, .sh), some (.dict (dN (gR L) don), .own), jk x2, jk x3, none]
theorem rg_nd' (m : Nat) : (rg m).Nodup := List.nodup_range
theorem don_new {m : Nat} (hm : m ≤ 4) {don rest : List Nat} {i : Nat} (h : don ++ i :: rest = rg m) : B4 don ∧ i < m ∧ i ∉ don ∧ don.length < 4 := by
  have hi : ∀ j ∈ don ++ i :: rest, j < m := fun j hj => by rw [h] at hj; exact rg_lt hj
  refine ⟨fun j hj => Nat.lt_of_lt_of_le (hi j (List.mem_append_left _ hj)) hm, hi i (by simp), fun z => ?_, ?_⟩
  · have nd := rg_nd' m
    rw [← h] at nd
    exact (List.nodup_append.mp nd).2.2 i z i (List.mem_cons_self ..) rfl
  · have := congrArg List.length h
    rw [rg_len, List.length_append, List.length_cons] at this
    omega
theorem lcI {m : Nat} {L : List Sm} (h : GL m L) {i : Nat} (hi : i < m) (x1 x3 : Option (D × Fl)) : fLc [4] (itV (fName 0)) (gN 4) (tTrue) (toV (f2 (fSlot 4) (fSlot 2) dIxA)) [some (eL m L, .sh), x1, some (.str (nm i), .sh), x3, none] = some (.list ((inL L i).map .int), true, [some (eL m L, .sh), x1, some (.str (nm i), .sh), x3, none]) := by
  refine (fLc_typ (eT m) L (fun _ => true) (fun f => .int (f i)) (en1 := [some (eL m L, .sh), x1, some (.str (nm i), .sh), x3, none]) ?_ rfl rfl (by rw [sl_ok]; have := h.l5; omega) (fun f hf => ?_)).trans (by rw [filt_true]; unfold inL; rw [List.map_map]; rfl)
  · rw [e_itV]
    simp [eL]
  · have h1 := ix_e h.m4 f hi
    generalize eT m f = S1 at *
    generalize eL m L = S2 at *
    refine ⟨[some (S2, .sh), x1, some (.str (nm i), .sh), x3, some (S1, .sh)], ?_, ?_, fun _ => ?_, rfl⟩
    · simp [wipeE]
    · simp
    · simp [h1]
theorem dN_len (g : Nat → D) (l : List Nat) : (dN g l).length = l.length := List.length_map ..
theorem ranges_ok {m : Nat} {L : List Sm} (h : GL m L) : F_ranges [eL m L] = some (.dict (dN (gR L) (rg m)), true) := by
  have e0 := eL_0 h
  have es := sort_NM h
  have hm := h.m4
  have hl := h.l5
  have lc := fun i hi x1 x3 => lcI h (i := i) hi x1 x3
  refine wp_val ?_
  show Wp (mk0 5 b_ranges _) _
  rw [mk0_e, wp_bind]
  show Wp (b_ranges [some (eL m L, .sh), none, none, none, none]) _
  unfold b_ranges
  generalize eL m L = S2 at *
  generalize eT m (hd0 L) = S3 at *
  rw [wp_sSeq]
  simp
  refine later_i ?_
  rw [wp_sSeq, wp_sFor, wp_itV]
  simp [e0, es, NM, -wp_sSeq]
  refine wp_mono (for_inv (IRg m L S2) (Q := fun y => y.1 = .nx ∧ IRg m L S2 [] y.2) ?_ (fun en h => ⟨rfl, h⟩) _ _ ⟨[], rg m, none, none, rfl, rfl, rfl⟩) ?_
  · rintro d r en ⟨don, rest, x2, x3, hr, hds, rfl⟩
    cases rest with
    | nil => cases hds
    | cons i rest =>
      obtain ⟨rfl, rfl⟩ := List.cons.inj hds
      obtain ⟨b4, hi, hn, hlen⟩ := don_new hm hr
      have pn := put_new (gR L) b4 (by omega : i < 4) hn
      have h1 := lc i hi
      have h2 := min_ints (h.inL i)
      have h3 := max_ints (h.inL i)
      have hz : (dN (gR L) don).length < 16777216 := by rw [dN_len]; omega
      have fin : IRg m L S2 (rest.map fun i => .str (nm i)) [some (S2, .sh), some (.dict (dN (gR L) (don ++ [i])), .own), some (.str (nm i), .sh), some (.list ((inL L i).map .int), .own), none] := ⟨don ++ [i], rest, some (.str (nm i), false), some (.list ((inL L i).map .int), true), by rw [List.append_assoc]; exact hr, rfl, rfl⟩
      rw [← pn] at fin
      have hg : gR L i = .tuple [.int (mnI (inL L i)), .int (mxI (inL L i))] := rfl
      rw [hg] at fin
      clear pn
      generalize dN (gR L) don = DN at *
      generalize (inL L i).map PyData.int = IL at *
      refine wp_of (y := ([some (S2, .sh), some (.dict DN, .own), some (.str (nm i), .sh), jk x3, none] : En)) (by simp) ?_
      rw [wp_sSeq]
      simp [h1]
      refine later_i ?_
      simp [h2, h3, hz]
      exact fin
  · rintro ⟨o, en⟩ ⟨rfl, don, rest, x2, x3, hr, hds, rfl⟩
    cases rest with
    | cons i rest => cases hds
    | nil =>
      rw [List.append_nil] at hr
      subst hr
      refine later_i ?_
      simp
end Hd
namespace Hd
open PySem PySem.Spec L2 Fx
/-! ### sets, in order -/
theorem keysD_k : ∀ ks : List Key, keysD (ks.map kD) = some ks
  | [] => rfl
  | k :: ks => by
    show ((keyD (kD k)).bind fun q => (keysD (ks.map kD)).bind fun t => some (q :: t)) = _
    rw [keysD_k ks]
    cases k <;> rfl
def sk (ks : List Key) : List Key := (dedK ks).mergeSort fun a b => PySem.W.dataLe false (fun d : D => d) (kD a) (kD b)
theorem srt_sk (ks : List Key) : srtD ((dedK ks).map kD) = (sk ks).map kD := by
  unfold sk srtD
  rw [List.map_mergeSort (s := PySem.W.dataLe false fun d : D => d)]
  intro a _ b _
  rfl
theorem sk_mem {ks : List Key} {k : Key} : k ∈ sk ks ↔ k ∈ ks := by
  unfold sk
  rw [(List.mergeSort_perm _ _).mem_iff, dedK_mem]
theorem sk_nd (ks : List Key) : (sk ks).Nodup := by
  unfold sk
  exact (List.mergeSort_perm _ _).nodup_iff.mpr (dedK_nd _)
theorem sk_len (ks : List Key) : (sk ks).length ≤ ks.length := by
  unfold sk
  rw [(List.mergeSort_perm _ _).length_eq]
  exact dedK_len ks
theorem sortSet_k {ks : List Key} (o : oneKind ks = true) (hz : ks.length ≤ 1000) : dSortSetK [.list (ks.map kD)] = some (.list ((sk ks).map kD), true) := by
  show (keysD (ks.map kD)).bind (fun ks => if ks.length ≤ 1000 ∧ oneKind ks = true then some (PyData.list (srtD ((dedK ks).map kD)), true) else none) = _
  rw [keysD_k]
  show (if ks.length ≤ 1000 ∧ oneKind ks = true then some (PyData.list (srtD ((dedK ks).map kD)), true) else none) = _
  rw [if_pos ⟨hz, o⟩, srt_sk]

def kI (is : List Int) : List Key := is.map Sum.inl
theorem kI_D (is : List Int) : (kI is).map kD = is.map .int := by
  unfold kI
  rw [List.map_map]
  rfl
theorem one_kI (is : List Int) : oneKind (kI is) = true := by
  unfold oneKind
  rw [Bool.or_eq_true]
  exact .inl (List.all_eq_true.mpr fun k hk => by
    obtain ⟨i, _, rfl⟩ := List.mem_map.mp hk
    rfl)
theorem ss_ints {is : List Int} (h : is.length ≤ 1000) : dSortSetK [.list (is.map .int)] = some (.list ((sk (kI is)).map kD), true) := by
  rw [← kI_D]
  exact sortSet_k (one_kI is) (by unfold kI; rw [List.length_map]; exact h)
theorem lenSet_ints {is : List Int} (h : is.length ≤ 1000) : dLenSet [.list (is.map .int)] = some (.int ((dedK (kI is)).length : Nat), false) := by
  rw [← kI_D]
  show (keysD ((kI is).map kD)).bind (fun ks => if ks.length ≤ 1000 then some (PyData.int ((dedK ks).length : Nat), false) else none) = _
  rw [keysD_k]
  show (if (kI is).length ≤ 1000 then _ else _) = _
  rw [if_pos (by unfold kI; rw [List.length_map]; exact h)]
theorem sk_ded (ks : List Key) : (sk ks).length = (dedK ks).length := by
  unfold sk
  exact (List.mergeSort_perm _ _).length_eq
theorem ded_one {i : Int} {is : List Int} : (dedK (kI (i :: is))).length = 1 ↔ ∀ j ∈ is, j = i := by
  show ((Sum.inl i : Key) :: (dedK (kI is)).filter fun j => !decide (j = (Sum.inl i : Key))).length = 1 ↔ _
  rw [List.length_cons]
  constructor
  · intro h j hj
    have h0 : (dedK (kI is)).filter (fun j => !decide (j = (Sum.inl i : Key))) = [] := List.length_eq_zero_iff.mp (by omega)
    have h1 := List.filter_eq_nil_iff.mp h0 (.inl j) (dedK_mem.mpr (List.mem_map.mpr ⟨j, hj, rfl⟩))
    simpa using h1
  · intro h
    have h0 : (dedK (kI is)).filter (fun j => !decide (j = (Sum.inl i : Key))) = [] := List.filter_eq_nil_iff.mpr fun k hk => by
      obtain ⟨j, hj, rfl⟩ := List.mem_map.mp (dedK_mem.mp hk)
      simp [h j hj]
    rw [h0]
    rfl
/-! ### few values -/
def fv (L : List Sm) (i : Nat) : List Key := sk (kI (inL L i))
def gF (L : List Sm) (i : Nat) : D := .tuple ((fv L i).map kD)
def cF (L : List Sm) (most : Int) (i : Nat) : Bool := decide (((fv L i).length : Int) ≤ most)
def IFv (m : Nat) (L : List Sm) (most : Int) (S2 : D) (ds : List D) (en : En) : Prop := ∃ (don rest : List Nat) (x3 x4 : Option (D × Bool)), don ++ rest = rg m ∧ ds = (rest.map fun i => .str (nm i)) ∧ en = [some (S2, .sh), some (.int most, .sh), some (.dict (dN (gF L) (don.filter (cF L most))), .own), jk x3, jk x4, none]
theorem lcI5 {m : Nat} {L : List Sm} (h : GL m L) {i : Nat} (hi : i < m) (x1 x2 x4 : Option (D × Fl)) : fLc [5] (itV (fName 0)) (gN 5) (tTrue) (toV (f2 (fSlot 5) (fSlot 3) dIxA)) [some (eL m L, .sh), x1, x2, some (.str (nm i), .sh), x4, none] = some (.list ((inL L i).map .int), true, [some (eL m L, .sh), x1, x2, some (.str (nm i), .sh), x4, none]) := by
  refine (fLc_typ (eT m) L (fun _ => true) (fun f => .int (f i)) (en1 := [some (eL m L, .sh), x1, x2, some (.str (nm i), .sh), x4, none]) ?_ rfl rfl (by rw [sl_ok]; have := h.l5; omega) (fun f hf => ?_)).trans (by rw [filt_true]; unfold inL; rw [List.map_map]; rfl)
  · rw [e_itV]
    simp [eL]
  · have h1 := ix_e h.m4 f hi
    generalize eT m f = S1 at *
    generalize eL m L = S2 at *
    refine ⟨[some (S2, .sh), x1, x2, some (.str (nm i), .sh), x4, some (S1, .sh)], ?_, ?_, fun _ => ?_, rfl⟩
    · simp [wipeE]
    · simp
    · simp [h1]
theorem few_ok {m : Nat} {L : List Sm} (h : GL m L) (most : Int) : F_few_values [eL m L, .int most] = some (.dict (dN (gF L) ((rg m).filter (cF L most))), true) := by
  have e0 := eL_0 h
  have es := sort_NM h
  have hm := h.m4
  have hl := h.l5
  have lc := fun i hi x1 x2 x4 => lcI5 h (i := i) hi x1 x2 x4
  refine wp_val ?_
  show Wp (mk0 6 b_few_values _) _
  rw [mk0_e, wp_bind]
  show Wp (b_few_values [some (eL m L, .sh), some (.int most, .sh), none, none, none, none]) _
  unfold b_few_values
  generalize eL m L = S2 at *
  generalize eT m (hd0 L) = S3 at *
  rw [wp_sSeq]
  simp
  refine later_i ?_
  rw [wp_sSeq, wp_sFor, wp_itV]
  simp [e0, es, NM, -wp_sSeq]
  refine wp_mono (for_inv (IFv m L most S2) (Q := fun y => y.1 = .nx ∧ IFv m L most S2 [] y.2) ?_ (fun en h => ⟨rfl, h⟩) _ _ ⟨[], rg m, none, none, rfl, rfl, rfl⟩) ?_
  · rintro d r en ⟨don, rest, x3, x4, hr, hds, rfl⟩
    cases rest with
    | nil => cases hds
    | cons i rest =>
      obtain ⟨rfl, rfl⟩ := List.cons.inj hds
      obtain ⟨b4, hi, hn, hlen⟩ := don_new hm hr
      have b4' : B4 (don.filter (cF L most)) := fun j hj => b4 j (List.mem_filter.mp hj).1
      have pn := put_new (gF L) b4' (by omega : i < 4) (fun z => hn (List.mem_filter.mp z).1)
      have h1 := lc i hi
      have h2 := ss_ints (is := inL L i) (by unfold inL; rw [List.length_map]; omega)
      have hz : (dN (gF L) (don.filter (cF L most))).length < 16777216 := by
        rw [dN_len]
        have := List.length_filter_le (cF L most) don
        omega
      have fin : ∀ x, x = dN (gF L) ((don ++ [i]).filter (cF L most)) → IFv m L most S2 (rest.map fun i => .str (nm i)) [some (S2, .sh), some (.int most, .sh), some (.dict x, .own), some (.str (nm i), .sh), some (gF L i, .sh), none] := fun x hx => ⟨don ++ [i], rest, some (.str (nm i), false), some (gF L i, false), by rw [List.append_assoc]; exact hr, rfl, by rw [hx]; rfl⟩
      have hg : gF L i = .tuple ((sk (kI (inL L i))).map kD) := rfl
      have hcd : cF L most i = decide (((sk (kI (inL L i))).length : Int) ≤ most) := rfl
      rw [List.filter_append] at fin
      rw [hg] at fin pn
      generalize hDN : dN (gF L) (don.filter (cF L most)) = DN at *
      generalize sk (kI (inL L i)) = SK at *
      generalize (inL L i).map PyData.int = IL at *
      refine wp_of (y := ([some (S2, .sh), some (.int most, .sh), some (.dict DN, .own), some (.str (nm i), .sh), jk x4, none] : En)) (by simp) ?_
      rw [wp_sSeq]
      simp [h1, h2]
      refine later_i ?_
      by_cases hc : (SK.length : Int) ≤ most
      · simp [hc, hz]
        refine fin _ ?_
        rw [pn]
        simp [hcd, hc]
      · simp [hc]
        refine fin _ ?_
        rw [← hDN]
        simp [hcd, hc]
  · rintro ⟨o, en⟩ ⟨rfl, don, rest, x3, x4, hr, hds, rfl⟩
    cases rest with
    | cons i rest => cases hds
    | nil =>
      rw [List.append_nil] at hr
      subst hr
      refine later_i ?_
      simp
/-! ### the greatest common measure -/
theorem gcd_fmod (a b : Int) : Int.gcd b (a.fmod b) = Int.gcd a b := by
  rw [Int.fmod_def, Int.gcd_comm a b]
  exact Int.gcd_sub_mul_left_right _ _ _
end Hd
namespace Hd
open PySem PySem.Spec L2 Fx
theorem fmod_lt {a b : Int} (h : b ≠ 0) : (a.fmod b).natAbs < b.natAbs := by
  have h1 := Int.emod_nonneg a h
  have h2 : a % b < (b.natAbs : Int) := Int.emod_lt a h
  rw [Int.fmod_eq_emod]
  split
  · omega
  · rename_i hc
    have hb : ¬ 0 ≤ b := fun z => hc (.inl z)
    have hd : ¬ b ∣ a := fun z => hc (.inr z)
    have h3 : a % b ≠ 0 := fun z => hd (Int.dvd_of_emod_eq_zero z)
    omega
def ICm (g : Nat) (n : Nat) (en : En) : Prop := ∃ a b : Int, Int.gcd a b = g ∧ b.natAbs = n ∧ en = [some (.int a, .sh), some (.int b, .sh)]
theorem while_lt {t : Tv} {b : Sv} (I : Nat → En → Prop) {Q : Out × En → Prop}
    (step : ∀ n en, I n en → (t en = some (false, en) ∧ Q (.nx, en)) ∨ (t en = some (true, en) ∧ ∃ m, m < n ∧ Wp (b en) fun y => y.1 = .nx ∧ I m y.2)) : ∀ (f n : Nat) (en : En), I n en → n < f → Wp (whileL t b f en) Q := by
  intro f n en h hf
  refine while_run (fun k en => ∃ n, n ≤ k ∧ I n en) ?_ n en f ⟨n, Nat.le_refl _, h⟩ hf
  rintro k en ⟨n, hn, h⟩
  rcases step n en h with ⟨e, q⟩ | ⟨e, m, hm, q⟩
  · exact .inl ⟨e, q⟩
  · refine .inr ⟨e, k - 1, by omega, wp_mono q ?_⟩
    rintro ⟨o, en2⟩ ⟨rfl, q⟩
    exact ⟨m, by omega, q⟩
theorem common_ok {a b : Int} (hb : b.natAbs ≤ 1000) : F_common [.int a, .int b] = some (.int (Int.gcd a b : Nat), false) := by
  refine wp_val ?_
  show Wp (mk0 2 b_common _) _
  rw [mk0_e, wp_bind]
  show Wp (b_common [some (.int a, .sh), some (.int b, .sh)]) _
  unfold b_common
  rw [wp_sSeq]
  refine wp_mono (while_lt (ICm (Int.gcd a b)) (Q := fun y => ∃ c : Int, c.natAbs = Int.gcd a b ∧ y = (.nx, [some (.int c, .sh), some (.int 0, .sh)])) ?_ _ _ _ ⟨a, b, rfl, rfl, rfl⟩ (by unfold fuelN; omega)) ?_
  · rintro n en ⟨c, d, hg, rfl, rfl⟩
    by_cases hd : d = 0
    · subst hd
      left
      refine ⟨by simp [dNe_int], c, ?_, rfl⟩
      rw [← hg]
      simp
    · right
      refine ⟨by simp [dNe_int, hd], (c.fmod d).natAbs, fmod_lt hd, ?_⟩
      have e : iModN c d = some (.int (c.fmod d)) := by
        unfold iModN
        rw [if_neg hd]
      simp [e]
      exact ⟨d, c.fmod d, by rw [gcd_fmod, hg], rfl, rfl⟩
  · rintro ⟨o, en⟩ ⟨c, hc, he⟩
    cases he
    refine later_i ?_
    simp
    split <;> omega
/-! ### rests -/
def gG (L : List Sm) (i : Nat) : Nat := L.foldl (fun g f => Int.gcd (g : Nat) (f i - hd0 L i)) 0
def gT_ (L : List Sm) (i : Nat) : D := .tuple [.int (gG L i : Nat), .int (hd0 L i % (gG L i : Nat))]
def cT (L : List Sm) (i : Nat) : Bool := decide (1 < gG L i)
def IR1 (m : Nat) (L : List Sm) (DN : D) (i : Nat) (ds : List D) (en : En) : Prop := ∃ (rest : List Sm) (g : Nat) (x4 : Option (D × Bool)), (∀ f ∈ rest, f ∈ L) ∧ ds = rest.map (eT m) ∧ rest.foldl (fun g f => Int.gcd (g : Nat) (f i - hd0 L i)) g = gG L i ∧ en = [some (eL m L, .sh), some (DN, .own), some (.str (nm i), .sh), some (.int (g : Nat), .sh), jk x4]
def IR2 (m : Nat) (L : List Sm) (ds : List D) (en : En) : Prop := ∃ (don rest : List Nat) (x2 x3 x4 : Option (D × Bool)), don ++ rest = rg m ∧ ds = (rest.map fun i => .str (nm i)) ∧ en = [some (eL m L, .sh), some (.dict (dN (gT_ L) (don.filter (cT L))), .own), jk x2, jk x3, jk x4]
theorem GL.hd {m : Nat} {L : List Sm} (h : GL m L) : hd0 L ∈ L := by
  obtain ⟨f, r, rfl, e⟩ := h.cons
  rw [e]
  exact List.mem_cons_self ..
theorem GL.dif {m : Nat} {L : List Sm} (h : GL m L) {f : Sm} (hf : f ∈ L) {i : Nat} (hi : i < m) : (f i - hd0 L i).natAbs ≤ 39 := by
  have h1 := h.bd f hf i hi
  have h2 := h.bd _ h.hd i hi
  omega
theorem rests_in {m : Nat} {L : List Sm} (h : GL m L) (DN : D) {i : Nat} (hi : i < m) (x4 : Option (D × Bool)) : Wp (sFor (itV (fName 0)) (gN 4) (sSet 3 (fCall 2 (lCons (fName 3) (lCons (toV (f2 (toO (f2 (fSlot 4) (fSlot 2) dIxA)) (toO (f2 (toO (f2 (fSlot 0) (svO (fC (.int 0))) dIxA)) (fSlot 2) dIxA)) (isI iSub))) (lNil))) F_common)) [some (eL m L, .sh), some (DN, .own), some (.str (nm i), .sh), some (.int 0, .sh), jk x4]) fun y => y.1 = .nx ∧ ∃ x4 : Option (D × Bool), y.2 = [some (eL m L, .sh), some (DN, .own), some (.str (nm i), .sh), some (.int (gG L i : Nat), .sh), jk x4] := by
  have e0 := eL_0 h
  have ix0 := ix_e h.m4 (hd0 L) hi
  rw [wp_sFor, wp_itV]
  simp [eL]
  refine wp_mono (for_inv (IR1 m L DN i) (Q := fun y => y.1 = .nx ∧ IR1 m L DN i [] y.2) ?_ (fun en h => ⟨rfl, h⟩) _ _ ⟨L, 0, x4, fun f hf => hf, rfl, rfl, rfl⟩) ?_
  · rintro d r en ⟨rest, g, x4, hin, hds, hg, rfl⟩
    cases rest with
    | nil => cases hds
    | cons f rest =>
      obtain ⟨rfl, rfl⟩ := List.cons.inj hds
      have hf := hin f (List.mem_cons_self ..)
      have ix1 := ix_e h.m4 f hi
      have hc := common_ok (a := (g : Nat)) (b := f i - hd0 L i) (by have := h.dif hf hi; omega)
      have fin : IR1 m L DN i (rest.map (eT m)) [some (eL m L, .sh), some (DN, .own), some (.str (nm i), .sh), some (.int (Int.gcd (g : Nat) (f i - hd0 L i) : Nat), .sh), some (eT m f, .sh)] := ⟨rest, _, some (eT m f, false), fun f hf => hin f (List.mem_cons_of_mem _ hf), rfl, hg, rfl⟩
      generalize F_common = A at hc ⊢
      generalize eT m f = S1 at *
      generalize eT m (hd0 L) = S3 at *
      generalize eL m L = S2 at *
      generalize Int.gcd (g : Nat) (f i - hd0 L i) = G at *
      simp [e0, ix0, ix1, hc]
      exact fin
  · rintro ⟨o, en⟩ ⟨rfl, rest, g, x4, hin, hds, hg, rfl⟩
    cases rest with
    | cons f rest => cases hds
    | nil =>
      have hg : g = gG L i := hg
      rw [hg]
      exact ⟨rfl, x4, rfl⟩
theorem rests_ok {m : Nat} {L : List Sm} (h : GL m L) : F_rests [eL m L] = some (.dict (dN (gT_ L) ((rg m).filter (cT L))), true) := by
  have e0 := eL_0 h
  have es := sort_NM h
  have hm := h.m4
  have lin := fun DN i hi x4 => rests_in h DN (i := i) hi x4
  have ix0 := fun i hi => ix_e h.m4 (hd0 L) (i := i) hi
  refine wp_val ?_
  show Wp (mk0 5 b_rests _) _
  rw [mk0_e, wp_bind]
  show Wp (b_rests [some (eL m L, .sh), none, none, none, none]) _
  unfold b_rests
  rw [wp_sSeq]
  simp
  refine later_i ?_
  rw [wp_sSeq, wp_sFor, wp_itV]
  simp [e0, es, NM, -wp_sSeq]
  refine wp_mono (for_inv (IR2 m L) (Q := fun y => y.1 = .nx ∧ IR2 m L [] y.2) ?_ (fun en h => ⟨rfl, h⟩) _ _ ⟨[], rg m, none, none, none, rfl, rfl, rfl⟩) ?_
  · rintro d r en ⟨don, rest, x2, x3, x4, hr, hds, rfl⟩
    cases rest with
    | nil => cases hds
    | cons i rest =>
      obtain ⟨rfl, rfl⟩ := List.cons.inj hds
      obtain ⟨b4, hi, hn, hlen⟩ := don_new hm hr
      have b4' : B4 (don.filter (cT L)) := fun j hj => b4 j (List.mem_filter.mp hj).1
      have pn := put_new (gT_ L) b4' (by omega : i < 4) (fun z => hn (List.mem_filter.mp z).1)
      have hz : (dN (gT_ L) (don.filter (cT L))).length < 16777216 := by
        rw [dN_len]
        have := List.length_filter_le (cT L) don
        omega
      have fin : ∀ (x : List (D × D)) (x4 : Option (D × Bool)), x = dN (gT_ L) ((don ++ [i]).filter (cT L)) → IR2 m L (rest.map fun i => .str (nm i)) [some (eL m L, .sh), some (.dict x, .own), some (.str (nm i), .sh), some (.int (gG L i : Nat), .sh), jk x4] := fun x x4 hx => ⟨don ++ [i], rest, some (.str (nm i), false), some (.int (gG L i : Nat), false), x4, by rw [List.append_assoc]; exact hr, rfl, by rw [hx]; rfl⟩
      have hg : gT_ L i = .tuple [.int (gG L i : Nat), .int (hd0 L i % (gG L i : Nat))] := rfl
      have hcd : cT L i = decide (1 < gG L i) := rfl
      rw [List.filter_append] at fin
      rw [hg] at pn
      have lin := lin (.dict (dN (gT_ L) (don.filter (cT L)))) i hi x4
      have ix0 := ix0 i hi
      refine wp_of (y := ([some (eL m L, .sh), some (.dict (dN (gT_ L) (don.filter (cT L))), .own), some (.str (nm i), .sh), jk x3, jk x4] : En)) (by simp) ?_
      rw [wp_sSeq]
      refine wp_of (y := (Out.nx, ([some (eL m L, .sh), some (.dict (dN (gT_ L) (don.filter (cT L))), .own), some (.str (nm i), .sh), some (.int 0, .sh), jk x4] : En))) (by simp) ?_
      refine later_i ?_
      rw [wp_sSeq]
      refine wp_mono lin ?_
      rintro ⟨o, en⟩ ⟨rfl, x4, rfl⟩
      refine later_i ?_
      clear lin
      generalize hDN : dN (gT_ L) (don.filter (cT L)) = DN at *
      generalize gG L i = G at *
      by_cases hc : 1 < G
      · have hG : 0 < G := by omega
        have hc2 : (1 : Int) < (G : Int) := by omega
        generalize eL m L = S2 at *
        generalize eT m (hd0 L) = S3 at *
        simp [hc2, e0, ix0, hz, iMod, hG]
        refine fin _ x4 ?_
        rw [pn]
        simp [hcd, hc]
      · have hc2 : ¬ (1 : Int) < (G : Int) := by omega
        generalize eL m L = S2 at *
        simp [hc2]
        refine fin _ x4 ?_
        rw [← hDN]
        simp [hcd, hc]
  · rintro ⟨o, en⟩ ⟨rfl, don, rest, x2, x3, x4, hr, hds, rfl⟩
    cases rest with
    | cons i rest => cases hds
    | nil =>
      rw [List.append_nil] at hr
      subst hr
      refine later_i ?_
      simp
end Hd
namespace Hd
open PySem PySem.Spec L2 Fx

/-! ### orders -/
def row3 (i : Nat) (w : String) (j : Nat) : D := .tuple [.str (nm i), .str (Str.ofString w), .str (nm j)]
def ltB (i j : Nat) : Bool := decide ((nm i).cps.toList < (nm j).cps.toList)
def gp (L : List Sm) (i j : Nat) : List Int := L.map fun f => f j - f i
def orw (L : List Sm) (i j : Nat) : List D := if ((gp L i j).all fun g => decide (0 < g)) = true then [row3 i "less" j] else if ((gp L i j).all fun g => decide (g = 0)) = true then (if ltB i j = true then [row3 i "same" j] else []) else if ((gp L i j).all fun g => decide (0 ≤ g)) = true then [row3 i "most" j] else []
theorem orw_len (L : List Sm) (i j : Nat) : (orw L i j).length ≤ 1 := by
  unfold orw
  split
  · exact Nat.le_refl _
  · split
    · split
      · exact Nat.le_refl _
      · exact Nat.zero_le _
    · split
      · exact Nat.le_refl _
      · exact Nat.zero_le _
theorem dLtS_nm (i j : Nat) : dLtS (.str (nm i)) (.str (nm j)) = some (.bool (ltB i j), false) := rfl
theorem dNe_nm {i j : Nat} (hi : i < 4) (hj : j < 4) : dNe (.str (nm i)) (.str (nm j)) = some (.bool (!decide (i = j)), false) := by
  rw [dNe_of (Sh.str _ (nm_ok i)) (Sh.str _ (nm_ok j)) (by omega) (by omega)]
  have : PyData.eqv (.str (nm i)) (.str (nm j)) = decide (i = j) := by
    rw [Bool.eq_iff_iff, decide_eq_true_eq]
    simp [PyData.eqv]
    exact ⟨fun h => nm_inj hi hj h, fun h => by rw [h]⟩
  rw [this]
theorem gaps_lc {m : Nat} {L : List Sm} (h : GL m L) (acc : List D) {i j : Nat} (hi : i < m) (hj : j < m) (x5 : Option (D × Bool)) : fLc [6] (itV (fName 0)) (gN 6) (tTrue) (toV (f2 (toO (f2 (fSlot 6) (fSlot 4) dIxA)) (toO (f2 (fSlot 6) (fSlot 3) dIxA)) (isI iSub))) [some (eL m L, .sh), some (.list (acc), .own), some (.list (NM m), .sh), some (.str (nm i), .sh), some (.str (nm j), .sh), jk x5, none, none] = some (.list ((gp L i j).map .int), true, [some (eL m L, .sh), some (.list (acc), .own), some (.list (NM m), .sh), some (.str (nm i), .sh), some (.str (nm j), .sh), jk x5, none, none]) := by
  refine (fLc_typ (eT m) L (fun _ => true) (fun f => .int (f j - f i)) (en1 := [some (eL m L, .sh), some (.list (acc), .own), some (.list (NM m), .sh), some (.str (nm i), .sh), some (.str (nm j), .sh), jk x5, none, none]) ?_ rfl rfl (by rw [sl_ok]; have := h.l5; omega) (fun f hf => ?_)).trans (by rw [filt_true]; unfold gp; rw [List.map_map]; rfl)
  · rw [e_itV]
    simp [eL]
  · have h1 := ix_e h.m4 f hi
    have h2 := ix_e h.m4 f hj
    generalize eT m f = S1 at *
    generalize eL m L = S2 at *
    refine ⟨[some (S2, .sh), some (.list acc, .own), some (.list (NM m), .sh), some (.str (nm i), .sh), some (.str (nm j), .sh), jk x5, some (S1, .sh), none], ?_, ?_, fun _ => ?_, rfl⟩
    · simp [wipeE]
    · simp
    · simp [h1, h2]
theorem dGt_i (i : Int) : isI iGt (.int i) (.int 0) = some (.bool (decide (0 < i)), false) := rfl
theorem dGe_i (i : Int) : isI iGe (.int i) (.int 0) = some (.bool (decide (0 ≤ i)), false) := rfl
theorem all_lc (is : List Int) (hl : is.length ≤ 1000) (op : D → D → Option (D × Bool)) (c : Int → Bool) (ho : ∀ i, op (.int i) (.int 0) = some (.bool (c i), false)) (S2 N : D) (acc : List D) (i j : Nat) {fl : Fl} (hfl : fl ≠ .lent) : fLc [7] (itV (fName 5)) (gN 7) (tTrue) (toV (f2 (fSlot 7) (svO (fC (.int 0))) op)) [some (S2, .sh), some (.list acc, .own), some (N, .sh), some (.str (nm i), .sh), some (.str (nm j), .sh), some (.list (is.map .int), fl), none, none] = some (.list (is.map fun g => .bool (c g)), true, [some (S2, .sh), some (.list acc, .own), some (N, .sh), some (.str (nm i), .sh), some (.str (nm j), .sh), some (.list (is.map .int), .sh), none, none]) := by
  refine (fLc_typ .int is (fun _ => true) (fun g => .bool (c g)) (en1 := [some (S2, .sh), some (.list acc, .own), some (N, .sh), some (.str (nm i), .sh), some (.str (nm j), .sh), some (.list (is.map .int), .sh), none, none]) ?_ rfl rfl (by rw [sl_ok]; omega) (fun g hg => ?_)).trans (by rw [filt_true]; rfl)
  · rw [e_itV]
    cases fl with
    | lent => exact absurd rfl hfl
    | own => simp
    | sh => simp
  · generalize is.map PyData.int = IL at *
    refine ⟨[some (S2, .sh), some (.list acc, .own), some (N, .sh), some (.str (nm i), .sh), some (.str (nm j), .sh), some (.list IL, .sh), some (S2, .sh), none].set 6 none |>.set 7 (some (.int g, .sh)), ?_, ?_, fun _ => ?_, rfl⟩
    · simp [wipeE]
    · simp
    · simp [ho]
theorem body_ok {m : Nat} {L : List Sm} (h : GL m L) {acc : List D} (ha : acc.length ≤ 1000) {i j : Nat} (hi : i < m) (hj : j < m) (x5 : Option (D × Bool)) : Wp (sIf (tB1 (f2 (fSlot 3) (fSlot 4) (dNe))) (sSeq (sSet 5 (fLc [6] (itV (fName 0)) (gN 6) (tTrue) (toV (f2 (toO (f2 (fSlot 6) (fSlot 4) dIxA)) (toO (f2 (fSlot 6) (fSlot 3) dIxA)) (isI iSub))))) (sIf (tB1 (fN (aCons (toO (fLc [7] (itV (fName 5)) (gN 7) (tTrue) (toV (f2 (fSlot 7) (svO (fC (.int 0))) (isI iGt))))) (aNil)) dAll)) (sExpr (fMut 1 isLst (lCons (fTup (lCons (fName 3) (lCons (fC (.str "less")) (lCons (fName 4) (lNil))))) (lNil)) mAppend)) (sIf (tB1 (fN (aCons (toO (fLc [7] (itV (fName 5)) (gN 7) (tTrue) (toV (f2 (fSlot 7) (svO (fC (.int 0))) (dEq))))) (aNil)) dAll)) (sExpr (fMut 1 isLst (lCons (toV (fIf (tB1 (f2 (fSlot 3) (fSlot 4) (dLtS))) (fLst (lCons (fTup (lCons (fName 3) (lCons (fC (.str "same")) (lCons (fName 4) (lNil))))) (lNil))) (fLst (lNil)))) (lNil)) mExtG)) (sIf (tB1 (fN (aCons (toO (fLc [7] (itV (fName 5)) (gN 7) (tTrue) (toV (f2 (fSlot 7) (svO (fC (.int 0))) (isI iGe))))) (aNil)) dAll)) (sExpr (fMut 1 isLst (lCons (fTup (lCons (fName 3) (lCons (fC (.str "most")) (lCons (fName 4) (lNil))))) (lNil)) mAppend)) (sNx))))) (sNx) [some (eL m L, .sh), some (.list (acc), .own), some (.list (NM m), .sh), some (.str (nm i), .sh), some (.str (nm j), .sh), jk x5, none, none]) fun y => y.1 = .nx ∧ ∃ x5 : Option (D × Bool), y.2 = [some (eL m L, .sh), some (.list (acc ++ if i = j then [] else orw L i j), .own), some (.list (NM m), .sh), some (.str (nm i), .sh), some (.str (nm j), .sh), jk x5, none, none] := by
  have hm := h.m4
  have hne := dNe_nm (i := i) (j := j) (by omega) (by omega)
  by_cases hij : i = j
  · subst hij
    simp at hne
    generalize eL m L = S2 at *
    simp [hne]
    exact ⟨x5, rfl⟩
  · have hlc := gaps_lc h acc hi hj x5
    have hgl : (gp L i j).length ≤ 1000 := by unfold gp; rw [List.length_map]; have := h.l5; omega
    have a1 := all_lc (gp L i j) hgl (isI iGt) (fun g => decide (0 < g)) dGt_i (eL m L) (.list (NM m)) acc i j (fl := .own) (by decide)
    have s1 := all_lc (gp L i j) hgl (isI iGt) (fun g => decide (0 < g)) dGt_i (eL m L) (.list (NM m)) acc i j (fl := .sh) (by decide)
    have a2 := all_lc (gp L i j) hgl dEq (fun g => decide (g = 0)) (fun g => dEq_int g 0) (eL m L) (.list (NM m)) acc i j (fl := .own) (by decide)
    have s2 := all_lc (gp L i j) hgl dEq (fun g => decide (g = 0)) (fun g => dEq_int g 0) (eL m L) (.list (NM m)) acc i j (fl := .sh) (by decide)
    have a3 := all_lc (gp L i j) hgl (isI iGe) (fun g => decide (0 ≤ g)) dGe_i (eL m L) (.list (NM m)) acc i j (fl := .own) (by decide)
    have s3 := all_lc (gp L i j) hgl (isI iGe) (fun g => decide (0 ≤ g)) dGe_i (eL m L) (.list (NM m)) acc i j (fl := .sh) (by decide)
    have b1 := dAll_map (fun g : Int => decide (0 < g)) (gp L i j)
    have b2 := dAll_map (fun g : Int => decide (g = 0)) (gp L i j)
    have b3 := dAll_map (fun g : Int => decide (0 ≤ g)) (gp L i j)
    have hlt := dLtS_nm i j
    have hz : acc.length < 16777216 := by omega
    have hz2 : acc.length + 1 ≤ 16777216 := by omega
    have hz3 : acc.length ≤ 16777216 := by omega
    rw [if_neg hij]
    unfold orw
    simp [hij] at hne
    generalize hc1 : ((gp L i j).all fun g => decide (0 < g)) = c1 at *
    generalize hc2 : ((gp L i j).all fun g => decide (g = 0)) = c2 at *
    generalize hc3 : ((gp L i j).all fun g => decide (0 ≤ g)) = c3 at *
    generalize ltB i j = c4 at *
    generalize eL m L = S2 at *
    clear hc1 hc2 hc3
    refine wp_mono (Q := fun y => y.1 = .nx ∧ ∃ x5 : Option (D × Bool), y.2 = [some (S2, .sh), some (.list (acc ++ if c1 = true then [row3 i "less" j] else if c2 = true then (if c4 = true then [row3 i "same" j] else []) else if c3 = true then [row3 i "most" j] else []), .own), some (.list (NM m), .sh), some (.str (nm i), .sh), some (.str (nm j), .sh), jk x5, none, none]) ?_ (fun y hy => hy)
    simp [hne, hlc]
    refine later_i ?_
    generalize (gp L i j).map PyData.int = IL at *
    generalize ((gp L i j).map fun g => PyData.bool (decide (0 < g))) = B1 at *
    generalize ((gp L i j).map fun g => PyData.bool (decide (g = 0))) = B2 at *
    generalize ((gp L i j).map fun g => PyData.bool (decide (0 ≤ g))) = B3 at *
    cases c1 with
    | true =>
      simp [a1, b1, hz]
      exact ⟨rfl, some (PyData.list IL, false), rfl⟩
    | false =>
      cases c2 with
      | true =>
        cases c4 with
        | true =>
          simp [a1, b1, s2, b2, hlt, hz2]
          exact ⟨rfl, some (PyData.list IL, false), rfl⟩
        | false =>
          simp [a1, b1, s2, b2, hlt, hz3]
          exact ⟨some (PyData.list IL, false), rfl⟩
      | false =>
        cases c3 with
        | true =>
          simp [a1, b1, s2, b2, s3, b3, hz]
          exact ⟨rfl, some (PyData.list IL, false), rfl⟩
        | false =>
          simp [a1, b1, s2, b2, s3, b3]
          exact ⟨some (PyData.list IL, false), rfl⟩
end Hd
namespace Hd
open PySem PySem.Spec L2 Fx

def orA (m : Nat) (L : List Sm) (i : Nat) (js : List Nat) : List D := js.flatMap fun j => if i = j then [] else orw L i j
def orT (m : Nat) (L : List Sm) (is : List Nat) : List D := is.flatMap fun i => orA m L i (rg m)
theorem orA_len (m : Nat) (L : List Sm) (i : Nat) : ∀ js : List Nat, (orA m L i js).length ≤ js.length
  | [] => Nat.le_refl _
  | j :: js => by
    have ih := orA_len m L i js
    have h1 := orw_len L i j
    unfold orA at *
    rw [List.flatMap_cons, List.length_append, List.length_cons]
    split
    · rw [List.length_nil]; omega
    · omega
theorem orT_len (m : Nat) (L : List Sm) : ∀ is : List Nat, (orT m L is).length ≤ is.length * m
  | [] => by simp [orT]
  | i :: is => by
    have ih := orT_len m L is
    have h1 := orA_len m L i (rg m)
    rw [rg_len] at h1
    unfold orT at *
    rw [List.flatMap_cons, List.length_append, List.length_cons, Nat.succ_mul]
    omega
def IOi (m : Nat) (L : List Sm) (base : List D) (i : Nat) (ds : List D) (en : En) : Prop := ∃ (don rest : List Nat) (x4 x5 : Option (D × Bool)), don ++ rest = rg m ∧ ds = (rest.map fun i => .str (nm i)) ∧ en = [some (eL m L, .sh), some (.list (base ++ orA m L i don), .own), some (.list (NM m), .sh), some (.str (nm i), .sh), jk x4, jk x5, none, none]
theorem inner_ok {m : Nat} {L : List Sm} (h : GL m L) {base : List D} (hb : base.length ≤ 500) {i : Nat} (hi : i < m) (x4 x5 : Option (D × Bool)) : Wp (sFor (itV (fName 2)) (gN 4) (sIf (tB1 (f2 (fSlot 3) (fSlot 4) (dNe))) (sSeq (sSet 5 (fLc [6] (itV (fName 0)) (gN 6) (tTrue) (toV (f2 (toO (f2 (fSlot 6) (fSlot 4) dIxA)) (toO (f2 (fSlot 6) (fSlot 3) dIxA)) (isI iSub))))) (sIf (tB1 (fN (aCons (toO (fLc [7] (itV (fName 5)) (gN 7) (tTrue) (toV (f2 (fSlot 7) (svO (fC (.int 0))) (isI iGt))))) (aNil)) dAll)) (sExpr (fMut 1 isLst (lCons (fTup (lCons (fName 3) (lCons (fC (.str "less")) (lCons (fName 4) (lNil))))) (lNil)) mAppend)) (sIf (tB1 (fN (aCons (toO (fLc [7] (itV (fName 5)) (gN 7) (tTrue) (toV (f2 (fSlot 7) (svO (fC (.int 0))) (dEq))))) (aNil)) dAll)) (sExpr (fMut 1 isLst (lCons (toV (fIf (tB1 (f2 (fSlot 3) (fSlot 4) (dLtS))) (fLst (lCons (fTup (lCons (fName 3) (lCons (fC (.str "same")) (lCons (fName 4) (lNil))))) (lNil))) (fLst (lNil)))) (lNil)) mExtG)) (sIf (tB1 (fN (aCons (toO (fLc [7] (itV (fName 5)) (gN 7) (tTrue) (toV (f2 (fSlot 7) (svO (fC (.int 0))) (isI iGe))))) (aNil)) dAll)) (sExpr (fMut 1 isLst (lCons (fTup (lCons (fName 3) (lCons (fC (.str "most")) (lCons (fName 4) (lNil))))) (lNil)) mAppend)) (sNx))))) (sNx)) [some (eL m L, .sh), some (.list (base), .own), some (.list (NM m), .sh), some (.str (nm i), .sh), jk x4, jk x5, none, none]) fun y => y.1 = .nx ∧ ∃ x4 x5 : Option (D × Bool), y.2 = [some (eL m L, .sh), some (.list (base ++ orA m L i (rg m)), .own), some (.list (NM m), .sh), some (.str (nm i), .sh), jk x4, jk x5, none, none] := by
  have hm := h.m4
  rw [wp_sFor, wp_itV]
  refine wp_of (y := (PyData.list (NM m), ([some (eL m L, .sh), some (.list (base), .own), some (.list (NM m), .sh), some (.str (nm i), .sh), jk x4, jk x5, none, none] : En))) (by simp) ?_
  refine wp_of (y := NM m) rfl ?_
  refine wp_mono (for_inv (IOi m L base i) (Q := fun y => y.1 = .nx ∧ IOi m L base i [] y.2) ?_ (fun en h => ⟨rfl, h⟩) _ _ ⟨[], rg m, x4, x5, rfl, rfl, by simp [orA]⟩) ?_
  · rintro d r en ⟨don, rest, x4, x5, hr, hds, rfl⟩
    cases rest with
    | nil => cases hds
    | cons j rest =>
      obtain ⟨rfl, rfl⟩ := List.cons.inj hds
      obtain ⟨b4, hj, hn, hlen⟩ := don_new hm hr
      refine wp_of (y := ([some (eL m L, .sh), some (.list (base ++ orA m L i don), .own), some (.list (NM m), .sh), some (.str (nm i), .sh), some (.str (nm j), .sh), jk x5, none, none] : En)) (by simp) ?_
      have hl := orA_len m L i don
      refine wp_mono (body_ok h (acc := base ++ orA m L i don) (by rw [List.length_append]; omega) hi hj x5) ?_
      rintro ⟨o, en⟩ ⟨rfl, x5, rfl⟩
      refine ⟨don ++ [j], rest, some (.str (nm j), false), x5, by rw [List.append_assoc]; exact hr, rfl, ?_⟩
      have : orA m L i (don ++ [j]) = orA m L i don ++ (if i = j then [] else orw L i j) := by
        unfold orA
        rw [List.flatMap_append]
        simp
      rw [this, ← List.append_assoc]
      rfl
  · rintro ⟨o, en⟩ ⟨rfl, don, rest, x4, x5, hr, hds, rfl⟩
    cases rest with
    | cons j rest => cases hds
    | nil =>
      rw [List.append_nil] at hr
      subst hr
      exact ⟨rfl, x4, x5, rfl⟩
/-! ### rows in order -/
def R3 (d : D) : Prop := ∃ i w j, d = row3 i w j
theorem orw_r3 (L : List Sm) (i j : Nat) : ∀ d ∈ orw L i j, R3 d := fun d hd => by
  unfold orw at hd
  split at hd
  · exact ⟨_, _, _, List.mem_singleton.mp hd⟩
  · split at hd
    · split at hd
      · exact ⟨_, _, _, List.mem_singleton.mp hd⟩
      · cases hd
    · split at hd
      · exact ⟨_, _, _, List.mem_singleton.mp hd⟩
      · cases hd
theorem orT_r3 (m : Nat) (L : List Sm) (is : List Nat) : ∀ d ∈ orT m L is, R3 d := fun d hd => by
  obtain ⟨i, _, hd⟩ := List.mem_flatMap.mp hd
  obtain ⟨j, _, hd⟩ := List.mem_flatMap.mp hd
  split at hd
  · cases hd
  · exact orw_r3 L i j d hd
theorem sh_r3 {d : D} (h : R3 d) : Sh 1 d := by
  obtain ⟨i, w, j, rfl⟩ := h
  refine Sh.tup (k := 0) fun d hd => ?_
  simp only [List.mem_cons, List.not_mem_nil, or_false] at hd
  rcases hd with rfl | rfl | rfl
  · exact Sh.str _ (nm_ok i)
  · exact Sh.str _ (ofS_ok w)
  · exact Sh.str _ (nm_ok j)
theorem sort_r3 {ds : List D} (h : ∀ d ∈ ds, R3 d) (hl : ds.length ≤ 1000) : dSort [.list ds] = some (.list (srtD ds), true) := by
  have h1 : sortOk ds = true := by
    unfold sortOk
    simp only [Bool.and_eq_true, Bool.or_eq_true, List.all_eq_true, decide_eq_true_eq]
    refine ⟨⟨⟨by rw [sl_ok]; omega, fun d hd e he => ?_⟩, .inl fun d hd => ?_⟩, fun d hd => ?_⟩
    · obtain ⟨i, w, j, rfl⟩ := h d hd
      obtain ⟨i, w, j, rfl⟩ := h e he
      simp [row3, PySem.W.alike, PySem.W.alikeAll]
    · obtain ⟨i, w, j, rfl⟩ := h d hd
      rfl
    · have := (sh_r3 (h d hd)).p
      omega
  have h2 : layOk ds = true := List.all_eq_true.mpr fun d hd => (sh_r3 (h d hd)).c
  show (if sortOk ds = true ∧ layOk ds = true then _ else _) = _
  rw [if_pos ⟨h1, h2⟩]
def IOo (m : Nat) (L : List Sm) (ds : List D) (en : En) : Prop := ∃ (don rest : List Nat) (x3 x4 x5 : Option (D × Bool)), don ++ rest = rg m ∧ ds = (rest.map fun i => .str (nm i)) ∧ en = [some (eL m L, .sh), some (.list (orT m L don), .own), some (.list (NM m), .sh), jk x3, jk x4, jk x5, none, none]
theorem orders_ok {m : Nat} {L : List Sm} (h : GL m L) : F_orders [eL m L] = some (.tuple (srtD (orT m L (rg m))), false) := by
  have e0 := eL_0 h
  have es := sort_NM h
  have hm := h.m4
  have inn := fun base hb i hi x4 x5 => inner_ok h (base := base) hb (i := i) hi x4 x5
  have hz := orT_len m L (rg m)
  rw [rg_len] at hz
  have hz2 : m * m ≤ 16 := by
    have := Nat.mul_le_mul hm hm
    omega
  have sr := sort_r3 (orT_r3 m L (rg m)) (by omega)
  refine wp_val ?_
  show Wp (mk0 8 b_orders _) _
  rw [mk0_e, wp_bind]
  show Wp (b_orders [some (eL m L, .sh), none, none, none, none, none, none, none]) _
  unfold b_orders
  rw [wp_sSeq]
  simp
  refine later_i ?_
  rw [wp_sSeq]
  refine wp_of (y := (Out.nx, ([some (eL m L, .sh), some (.list ([]), .own), some (.list (NM m), .own), none, none, none, none, none] : En))) (by simp [e0, es]) ?_
  refine later_i ?_
  rw [wp_sSeq, wp_sFor, wp_itV]
  refine wp_of (y := (PyData.list (NM m), ([some (eL m L, .sh), some (.list ([]), .own), some (.list (NM m), .sh), none, none, none, none, none] : En))) (by simp) ?_
  refine wp_of (y := NM m) rfl ?_
  refine wp_mono (for_inv (IOo m L) (Q := fun y => y.1 = .nx ∧ IOo m L [] y.2) ?_ (fun en h => ⟨rfl, h⟩) _ _ ⟨[], rg m, none, none, none, rfl, rfl, rfl⟩) ?_
  · rintro d r en ⟨don, rest, x3, x4, x5, hr, hds, rfl⟩
    cases rest with
    | nil => cases hds
    | cons i rest =>
      obtain ⟨rfl, rfl⟩ := List.cons.inj hds
      obtain ⟨b4, hi, hn, hlen⟩ := don_new hm hr
      refine wp_of (y := ([some (eL m L, .sh), some (.list (orT m L don), .own), some (.list (NM m), .sh), some (.str (nm i), .sh), jk x4, jk x5, none, none] : En)) (by simp) ?_
      have hl := orT_len m L don
      have hl2 : don.length * m ≤ 16 := by
        have := Nat.mul_le_mul (show don.length ≤ 4 by omega) hm
        omega
      refine wp_mono (inn _ (by omega) i hi x4 x5) ?_
      rintro ⟨o, en⟩ ⟨rfl, x4, x5, rfl⟩
      refine ⟨don ++ [i], rest, some (.str (nm i), false), x4, x5, by rw [List.append_assoc]; exact hr, rfl, ?_⟩
      have : orT m L (don ++ [i]) = orT m L don ++ orA m L i (rg m) := by
        unfold orT
        rw [List.flatMap_append]
        simp
      rw [this]
      rfl
  · rintro ⟨o, en⟩ ⟨rfl, don, rest, x3, x4, x5, hr, hds, rfl⟩
    cases rest with
    | cons j rest => cases hds
    | nil =>
      rw [List.append_nil] at hr
      subst hr
      refine later_i ?_
      generalize orT m L (rg m) = OT at *
      simp [sr]
end Hd
namespace Hd
open PySem PySem.Spec L2 Fx

/-! ### what the law holds the same -/
inductive SmD : Nat → D → Prop
  | int {n : Nat} (i : Int) : SmD n (.int i)
  | str {n : Nat} (x : Str) (h : PyData.strOk x = true) : SmD n (.str x)
  | tup {n : Nat} {ds : List D} (h : ∀ d ∈ ds, SmD n d) (hl : ds.length ≤ 1000) : SmD (n + 1) (.tuple ds)
theorem dEq_b (b c : Bool) : dEq (.bool b) (.bool c) = some (.bool (b == c), false) := by
  rw [dEq_of (Sh.bool b) (Sh.bool c) (by omega) (by omega)]
  cases b <;> cases c <;> rfl
theorem nat_nil : dEq (.list []) (.list []) = some (.bool true, false) := by
  rw [dEq_of (Sh.lst (k := 0) fun d hd => by cases hd) (Sh.lst (k := 0) fun d hd => by cases hd) (by omega) (by omega)]
  rfl
theorem same_ok {n : Nat} {d : D} (h : SmD n d) : ∀ K, n < K → F__law_same K [d, d] = some (.bool true, false) := by
  induction h with
  | int i =>
    intro K hK
    obtain ⟨K, rfl⟩ : ∃ g, K = g + 1 := ⟨K - 1, by omega⟩
    show mk0 3 (b__law_same (F__law_same K)) _ = _
    generalize F__law_same K = A0
    have e1 := dEq_int i i
    simp at e1
    refine wp_val ?_
    rw [mk0_e, wp_bind]
    show Wp (b__law_same A0 [some (.int i, .sh), some (.int i, .sh), none]) _
    unfold b__law_same
    rw [wp_sSeq]
    simp
    refine later_i ?_
    rw [wp_sSeq]
    simp [isND]
    refine later_i ?_
    rw [wp_sSeq]
    simp
    refine later_i ?_
    simp [e1, dEq_b]
  | str x hx =>
    intro K hK
    obtain ⟨K, rfl⟩ : ∃ g, K = g + 1 := ⟨K - 1, by omega⟩
    show mk0 3 (b__law_same (F__law_same K)) _ = _
    generalize F__law_same K = A0
    have e1 : dEq (.str x) (.str x) = some (.bool true, false) := by
      rw [dEq_of (Sh.str x hx) (Sh.str x hx) (by omega) (by omega), SeqAt.eqv_refl _ (Sh.str x hx).c]
    refine wp_val ?_
    rw [mk0_e, wp_bind]
    show Wp (b__law_same A0 [some (.str x, .sh), some (.str x, .sh), none]) _
    unfold b__law_same
    rw [wp_sSeq]
    simp
    refine later_i ?_
    rw [wp_sSeq]
    simp [isND]
    refine later_i ?_
    rw [wp_sSeq]
    simp [e1]
  | tup hd hl ih =>
    rename_i n ds
    intro K hK
    obtain ⟨K, rfl⟩ : ∃ g, K = g + 1 := ⟨K - 1, by omega⟩
    have ih := fun d hd => ih d hd K (by omega)
    show mk0 3 (b__law_same (F__law_same K)) _ = _
    generalize F__law_same K = A0 at *
    have e1 := dNe_int (ds.length : Nat) (ds.length : Nat)
    simp at e1
    have lc : fLc [2] (itR (aCons (toO (fN (aCons (fSlot 1) (aNil)) dLen)) (aNil)) range1D) (gN 2) (tNotF (tB1 (fCall 2 (lCons (toV (f2 (fSlot 0) (fSlot 2) dIxA)) (lCons (toV (f2 (fSlot 1) (fSlot 2) dIxA)) (lNil))) A0))) (fName 2) [some (.tuple ds, .sh), some (.tuple ds, .sh), none] = some (.list [], true, [some (.tuple ds, .sh), some (.tuple ds, .sh), none]) := by
      refine (fLc_typ iD (List.range ds.length) (fun _ => false) iD (en1 := [some (.tuple ds, .sh), some (.tuple ds, .sh), none]) ?_ rfl rfl (by rw [sl_ok]; simp; omega) (fun k hk => ?_)).trans (by rw [show (List.range ds.length).filter (fun _ => false) = [] from List.filter_eq_nil_iff.mpr fun _ _ z => by cases z]; rfl)
      · exact itR_s (hs := [.tv (.int (ds.length : Nat))]) (ds := [.int (ds.length : Nat)]) (by simp) (by simp) (range1_i (by omega))
      · have hk := List.mem_range.mp hk
        have g1 : atI ds (k : Int) = some ds[k] := at_nat (List.getElem?_eq_getElem hk)
        have g2 := ih ds[k] (List.getElem_mem hk)
        generalize ds[k] = S1 at *
        refine ⟨[some (.tuple ds, .sh), some (.tuple ds, .sh), some (.int (k : Int), .sh)], ?_, ?_, fun z => (by cases z), rfl⟩
        · simp [wipeE, iD]
        · simp [g1, g2]
    refine wp_val ?_
    rw [mk0_e, wp_bind]
    show Wp (b__law_same A0 [some (.tuple ds, .sh), some (.tuple ds, .sh), none]) _
    unfold b__law_same
    rw [wp_sSeq]
    simp [e1]
    refine later_i ?_
    simp [lc, nat_nil]
theorem memDict (g : Nat → D) {ks : List Nat} (hb : B4 ks) {i : Nat} (hi : i < 4) : memD (.str (nm i)) (.dict (dN g ks)) = some (decide (i ∈ ks)) := by
  show some (Fx.dictGet (dN g ks) (.inr (nm i))).isSome = _
  rw [dgetN g hb hi]
  by_cases h : i ∈ ks <;> simp [h]
theorem same_dict {g : Nat → D} {ks : List Nat} (hb : B4 ks) (hl : ks.length ≤ 4) (hg : ∀ i ∈ ks, SmD 5 (g i)) : F__law_same_dict [.dict (dN g ks), .dict (dN g ks)] = some (.bool true, false) := by
  have e1 := dNe_int (ks.length : Nat) (ks.length : Nat)
  simp at e1
  have n2 : dNe (.list []) (.list []) = some (.bool false, false) := dNe_same (k := 1) (Sh.lst (k := 0) fun d hd => by cases hd) (by omega)
  have hs : ∀ i ∈ ks, F__law_same recN [g i, g i] = some (.bool true, false) := fun i hi => same_ok (hg i hi) recN (by decide)
  have hk : (dN g ks).map (·.1) = ks.map fun i => .str (nm i) := by
    unfold dN
    rw [List.map_map]
    rfl
  refine wp_val ?_
  show Wp (mk0 3 b__law_same_dict _) _
  rw [mk0_e, wp_bind]
  show Wp (b__law_same_dict [some (.dict (dN g ks), .sh), some (.dict (dN g ks), .sh), none]) _
  unfold b__law_same_dict
  generalize F__law_same recN = A0 at *
  have lc1 : fLc [2] (itE (fName 1)) (gN 2) (tB1 (f2 (fSlot 2) (fSlot 0) (dNotIn))) (fName 2) [some (.dict (dN g ks), .sh), some (.dict (dN g ks), .sh), none] = some (.list [], true, [some (.dict (dN g ks), .sh), some (.dict (dN g ks), .sh), none]) := by
    refine (fLc_typ (fun i => .str (nm i)) ks (fun _ => false) (fun i => .str (nm i)) (en1 := [some (.dict (dN g ks), .sh), some (.dict (dN g ks), .sh), none]) ?_ rfl rfl (by rw [sl_ok]; omega) (fun i hi => ?_)).trans (by rw [show ks.filter (fun _ => false) = [] from List.filter_eq_nil_iff.mpr fun _ _ z => by cases z]; rfl)
    · rw [e_itE]
      simp [hk]
    · have hm := memDict g hb (hb i hi)
      have hn : dNotIn (.str (nm i)) (.dict (dN g ks)) = some (.bool false, false) := by
        unfold dNotIn
        rw [hm]
        simp [hi]
      generalize dN g ks = DN at *
      refine ⟨[some (.dict DN, .sh), some (.dict DN, .sh), some (.str (nm i), .sh)], ?_, ?_, fun z => (by cases z), rfl⟩
      · simp [wipeE]
      · simp [hn]
  have lc2 : fLc [2] (itE (fName 1)) (gN 2) (tNotF (tB1 (fCall 2 (lCons (toV (f2 (fSlot 0) (fSlot 2) dIxA)) (lCons (toV (f2 (fSlot 1) (fSlot 2) dIxA)) (lNil))) A0))) (fName 2) [some (.dict (dN g ks), .sh), some (.dict (dN g ks), .sh), none] = some (.list [], true, [some (.dict (dN g ks), .sh), some (.dict (dN g ks), .sh), none]) := by
    refine (fLc_typ (fun i => .str (nm i)) ks (fun _ => false) (fun i => .str (nm i)) (en1 := [some (.dict (dN g ks), .sh), some (.dict (dN g ks), .sh), none]) ?_ rfl rfl (by rw [sl_ok]; omega) (fun i hi => ?_)).trans (by rw [show ks.filter (fun _ => false) = [] from List.filter_eq_nil_iff.mpr fun _ _ z => by cases z]; rfl)
    · rw [e_itE]
      simp [hk]
    · have hd := dgetN g hb (hb i hi)
      rw [if_pos hi] at hd
      have hq := hs i hi
      generalize dN g ks = DN at *
      generalize g i = GI at *
      refine ⟨[some (.dict DN, .sh), some (.dict DN, .sh), some (.str (nm i), .sh)], ?_, ?_, fun z => (by cases z), rfl⟩
      · simp [wipeE]
      · simp [hd, hq]
  have hln : dLen [.dict (dN g ks)] = some (.int (ks.length : Nat), false) := by
    show some (PyData.int ((dN g ks).length : Nat), false) = _
    rw [dN_len]
  generalize dN g ks = DN at *
  rw [wp_sSeq]
  simp [hln, e1, lc1, n2]
  refine later_i ?_
  simp [lc2, nat_nil]
end Hd
namespace Hd
open PySem PySem.Spec L2 Fx

/-! ### samples that are drawn -/
def upd {α : Type} (g : Nat → α) (i : Nat) (v : α) : Nat → α := fun j => if j = i then v else g j
theorem upd_map {α β : Type} (f : Nat → α → β) (g : Nat → α) (v : α) {i : Nat} {don : List Nat} (h : i ∉ don) : don.map (fun j => f j (upd g i v j)) = don.map fun j => f j (g j) := List.map_congr_left fun j hj => by
  unfold upd
  rw [if_neg (fun (e : j = i) => h (e ▸ hj))]
theorem upd_same {α : Type} (g : Nat → α) (i : Nat) (v : α) : upd g i v i = v := if_pos rfl
theorem upd_ne {α : Type} (g : Nat → α) {i j : Nat} (v : α) (h : j ≠ i) : upd g i v j = g j := if_neg h
def KB (d : D) : Prop := ∃ k b s : Int, d = .tuple [.int k, .int b, .int s] ∧ 0 ≤ k ∧ k < 5 ∧ -3 ≤ b ∧ b ≤ 3 ∧ 1 ≤ s ∧ s ≤ 4
theorem names_tk {v : Nat} (hv : v < 4) : [PyData.str (Str.ofString "a"), .str (Str.ofString "b2"), .str (Str.ofString "c"), .str (Str.ofString "d")].take (v + 1) = NM (v + 1) := by
  match v, hv with
  | 0, _ => rfl
  | 1, _ => rfl
  | 2, _ => rfl
  | 3, _ => rfl
def IKs (dr : List Int) (m : Nat) (ds acc : List D) (w : En) : Prop := ∃ (n : Nat) (don rest : List Nat) (g : Nat → D), don ++ rest = rg m ∧ ds = (rest.map fun i => .str (nm i)) ∧ acc = (don.map fun i => .tuple [.str (nm i), g i]) ∧ (∀ i ∈ don, KB (g i)) ∧ w = [some (eW dr n, .lent), some (.list (NM m), .sh), some (.list [], .own), none, none, none, none, none, none, none]
theorem kinds_ok {dr : List Int} (hd : Ok997 dr) (n : Nat) {m : Nat} (hm : m ≤ 4) : Wp (fLc [4] (itV (fName 1)) (gN 4) (tTrue) (fTup (lCons (fName 4) (lCons (fTup (lCons (toV (fCallW 1 0 (lCons (fC (.int 5)) (lNil)) F__law_next)) (lCons (toV (f2 (toO (fCallW 1 0 (lCons (fC (.int 7)) (lNil)) F__law_next)) (svO (fC (.int 3))) (isI iSub))) (lCons (toV (f2 (svO (fC (.int 1))) (toO (fCallW 1 0 (lCons (fC (.int 4)) (lNil)) F__law_next)) (dAdd))) (lNil))))) (lNil)))) [some (eW dr n, .lent), some (.list (NM m), .own), some (.list [], .own), none, none, none, none, none, none, none]) fun y => ∃ (n : Nat) (g : Nat → D), (∀ i, i < m → KB (g i)) ∧ y = (.list ((rg m).map fun i => .tuple [.str (nm i), g i]), true, [some (eW dr n, .lent), some (.list (NM m), .sh), some (.list [], .own), none, none, none, none, none, none, none]) := by
  refine flc_wp ?_
  rw [wp_itV]
  refine wp_of (y := (PyData.list (NM m), ([some (eW dr n, .lent), some (.list (NM m), .sh), some (.list [], .own), none, none, none, none, none, none, none] : En))) (by simp) ?_
  refine wp_of (y := NM m) rfl ?_
  refine wp_mono (lc_inv (IKs dr m) ?_ _ [] _ ⟨n, [], rg m, fun _ => .none, rfl, rfl, rfl, fun i hi => (by cases hi), rfl⟩) ?_
  · rintro d r acc w ⟨n, don, rest, g, hr, hds, rfl, hk, rfl⟩
    cases rest with
    | nil => cases hds
    | cons i rest =>
      obtain ⟨rfl, rfl⟩ := List.cons.inj hds
      obtain ⟨b4, hi, hn, hlen⟩ := don_new hm hr
      obtain ⟨u, u0, u1, e1⟩ := next_ex hd n 5 (by decide)
      obtain ⟨v, v0, v1, e2⟩ := next_ex hd (n + 1) 7 (by decide)
      obtain ⟨s, s0, s1, e3⟩ := next_ex hd (n + 1 + 1) 4 (by decide)
      have fin : IKs dr m (rest.map fun i => .str (nm i)) ((don.map fun i => .tuple [.str (nm i), g i]) ++ [.tuple [.str (nm i), .tuple [.int u, .int (v - 3), .int (1 + s)]]]) [some (eW dr (n + 1 + 1 + 1), .lent), some (.list (NM m), .sh), some (.list [], .own), none, none, none, none, none, none, none] := by
        refine ⟨n + 1 + 1 + 1, don ++ [i], rest, upd g i (.tuple [.int u, .int (v - 3), .int (1 + s)]), by rw [List.append_assoc]; exact hr, rfl, ?_, fun j hj => ?_, rfl⟩
        · rw [List.map_append, upd_map (fun i d => PyData.tuple [.str (nm i), d]) g _ hn]
          simp [upd_same]
        · rcases List.mem_append.mp hj with hj | hj
          · rw [upd_ne _ _ (fun (e : j = i) => hn (e ▸ hj))]
            exact hk j hj
          · rw [List.mem_singleton.mp hj, upd_same]
            exact ⟨u, v - 3, 1 + s, rfl, u0, u1, by omega, by omega, by omega, by omega⟩
      generalize F__law_next = A0 at *
      generalize (don.map fun i => PyData.tuple [.str (nm i), g i]) = AC at *
      simp [wipeE, e1, e2, e3]
      exact fin
  · rintro ⟨rs, w⟩ ⟨n, don, rest, g, hr, hds, q1, hk, q3⟩
    cases rest with
    | cons i rest => cases hds
    | nil =>
      rw [List.append_nil] at hr
      subst hr
      dsimp only at q1 q3
      subst q3
      simp only [List.nil_append] at q1
      subst q1
      refine ⟨by rw [sl_ok, List.length_map, rg_len]; omega, n, g, fun i hi => hk i (List.mem_range.mpr hi), ?_⟩
      simp [backE]
/-! ### one sample -/
def Bd (m : Nat) (f : Sm) : Prop := ∀ i, i < m → -7 ≤ f i ∧ f i ≤ 15
def IOn (dr : List Int) (m : Nat) (gk : Nat → D) (s2 s5 : Option (D × Fl)) (ds : List D) (en : En) : Prop := ∃ (n : Nat) (don rest : List Nat) (f : Sm) (x4 x7 x8 x9 : Option (D × Bool)), don ++ rest = (rg m).reverse ∧ ds = (rest.map fun i => .str (nm i)) ∧ (∀ i ∈ don, -7 ≤ f i ∧ f i ≤ 15) ∧ en = [some (eW dr n, .lent), some (.list (NM m), .sh), s2, some (.dict (dN gk (rg m)), .own), jk x4, s5, some (.dict (dN (fun i => .int (f i)) don), .own), jk x7, jk x8, jk x9]
theorem rev_new {m : Nat} (hm : m ≤ 4) {don rest : List Nat} {i : Nat} (h : don ++ i :: rest = (rg m).reverse) : B4 don ∧ i < m ∧ i ∉ don ∧ don.length < 4 := by
  have hi : ∀ j ∈ don ++ i :: rest, j < m := fun j hj => by rw [h] at hj; exact rg_lt (List.mem_reverse.mp hj)
  refine ⟨fun j hj => Nat.lt_of_lt_of_le (hi j (List.mem_append_left _ hj)) hm, hi i (by simp), fun z => ?_, ?_⟩
  · have nd : ((rg m).reverse).Nodup := (List.reverse_perm _).nodup_iff.mpr (rg_nd' m)
    rw [← h] at nd
    exact (List.nodup_append.mp nd).2.2 i z i (List.mem_cons_self ..) rfl
  · have := congrArg List.length h
    rw [List.length_reverse, rg_len, List.length_append, List.length_cons] at this
    omega
theorem one_ok {dr : List Int} (hd : Ok997 dr) (n : Nat) {m : Nat} (hm : m ≤ 4) {gk : Nat → D} (hk : ∀ i, i < m → KB (gk i)) (LD : List D) (v5 : D) (x4 x7 x8 x9 : Option (D × Bool)) : Wp (sFor (itV (toV (f1 (fSlot 1) dRevA))) (gN 4) (sSeq (sAsg (toV (f2 (fSlot 3) (fSlot 4) dIxA)) (gT 3 (gsCons (gN 7) (gsCons (gN 8) (gsCons (gN 9) (gsNil)))))) (sAsg (toV (fIf (tB1 (f2 (fSlot 7) (svO (fC (.int 0))) (dEq))) (ofV (fName 8)) (fIf (tB1 (f2 (fSlot 7) (svO (fC (.int 3))) (isI iLt))) (f2 (fSlot 8) (toO (f2 (fSlot 9) (toO (f2 (toO (fCallW 1 0 (lCons (fC (.int 5)) (lNil)) F__law_next)) (svO (fC (.int 1))) (isI iSub))) (isI iMul))) (dAdd)) (f2 (toO (fCallW 1 0 (lCons (fC (.int 9)) (lNil)) F__law_next)) (svO (fC (.int 4))) (isI iSub))))) (gSubD 6 (fName 4)))) [some (eW dr n, .lent), some (.list (NM m), .sh), some (.list LD, .own), some (.dict (dN gk (rg m)), .own), jk x4, some (v5, .sh), some (.dict [], .own), jk x7, jk x8, jk x9]) fun y => y.1 = .nx ∧ ∃ (n : Nat) (f : Sm) (x4 x7 x8 x9 : Option (D × Bool)), Bd m f ∧ y.2 = [some (eW dr n, .lent), some (.list (NM m), .sh), some (.list LD, .own), some (.dict (dN gk (rg m)), .own), jk x4, some (v5, .sh), some (.dict (dN (fun i => .int (f i)) (rg m).reverse), .own), jk x7, jk x8, jk x9] := by
  have hrev : (NM m).reverse = ((rg m).reverse).map fun i => .str (nm i) := by
    unfold NM
    rw [List.map_reverse]
  rw [wp_sFor, wp_itV]
  refine wp_of (y := (PyData.list (((rg m).reverse).map fun i => .str (nm i)), ([some (eW dr n, .lent), some (.list (NM m), .sh), some (.list LD, .own), some (.dict (dN gk (rg m)), .own), jk x4, some (v5, .sh), some (.dict [], .own), jk x7, jk x8, jk x9] : En))) (by simp [dRevA, hrev, -List.map_reverse]) ?_
  refine wp_of (y := ((rg m).reverse).map fun i => .str (nm i)) rfl ?_
  refine wp_mono (for_inv (IOn dr m gk (some (.list LD, .own)) (some (v5, .sh))) (Q := fun y => y.1 = .nx ∧ IOn dr m gk (some (.list LD, .own)) (some (v5, .sh)) [] y.2) ?_ (fun en h => ⟨rfl, h⟩) _ _ ⟨n, [], (rg m).reverse, fun _ => 0, x4, x7, x8, x9, rfl, rfl, fun i hi => (by cases hi), rfl⟩) ?_
  · rintro d r en ⟨n, don, rest, f, x4, x7, x8, x9, hr, hds, hb, rfl⟩
    cases rest with
    | nil => cases hds
    | cons i rest =>
      obtain ⟨rfl, rfl⟩ := List.cons.inj hds
      obtain ⟨b4, hi, hn, hlen⟩ := rev_new hm hr
      obtain ⟨k, b, s, hgk, k0, k1, b0, b1, s0, s1⟩ := hk i hi
      have hdg := dgetN gk (ks := rg m) (fun j hj => Nat.lt_of_lt_of_le (rg_lt hj) hm) (i := i) (by omega)
      rw [if_pos (show i ∈ rg m from List.mem_range.mpr hi), hgk] at hdg
      have hz : (dN (fun i => .int (f i)) don).length < 16777216 := by rw [dN_len]; omega
      have fin : ∀ (n : Nat) (x : List (D × D)) (v : Int), -7 ≤ v ∧ v ≤ 15 → x = Fx.dictPut (dN (fun i => .int (f i)) don) (.inr (nm i)) (.int v) → IOn dr m gk (some (.list LD, .own)) (some (v5, .sh)) (rest.map fun i => .str (nm i)) [some (eW dr n, .lent), some (.list (NM m), .sh), some (.list LD, .own), some (.dict (dN gk (rg m)), .own), some (.str (nm i), .sh), some (v5, .sh), some (.dict x, .own), some (.int k, .sh), some (.int b, .sh), some (.int s, .sh)] := by
        intro n x v hv hx
        refine ⟨n, don ++ [i], rest, upd f i v, some (.str (nm i), false), some (.int k, false), some (.int b, false), some (.int s, false), by rw [List.append_assoc]; exact hr, rfl, fun j hj => ?_, ?_⟩
        · rcases List.mem_append.mp hj with hj | hj
          · rw [upd_ne _ _ (fun (e : j = i) => hn (e ▸ hj))]
            exact hb j hj
          · rw [List.mem_singleton.mp hj, upd_same]
            exact hv
        · have e1 : dN (fun i => .int (f i)) don = dN (fun j => .int (upd f i v j)) don := (upd_map (fun i (d : Int) => (PyData.str (nm i), PyData.int d)) f v hn).symm
          have pn := put_new (fun j => .int (upd f i v j)) b4 (by omega : i < 4) hn
          rw [← e1] at pn
          rw [upd_same] at pn
          rw [hx, pn]
          rfl
      clear hgk hk
      generalize dN gk (rg m) = GK at *
      generalize dN (fun i => .int (f i)) don = DN at *
      obtain ⟨u, u0, u1, e1⟩ := next_ex hd n 5 (by decide)
      obtain ⟨w, w0, w1, e2⟩ := next_ex hd n 9 (by decide)
      generalize F__law_next = A0 at *
      refine wp_of (y := ([some (eW dr n, .lent), some (.list (NM m), .sh), some (.list LD, .own), some (.dict GK, .own), some (.str (nm i), .sh), some (v5, .sh), some (.dict DN, .own), jk x7, jk x8, jk x9] : En)) (by simp) ?_
      rw [wp_sSeq]
      refine wp_of (y := (Out.nx, ([some (eW dr n, .lent), some (.list (NM m), .sh), some (.list LD, .own), some (.dict GK, .own), some (.str (nm i), .sh), some (v5, .sh), some (.dict DN, .own), some (.int k, .sh), some (.int b, .sh), some (.int s, .sh)] : En))) (by simp [hdg]) ?_
      refine later_i ?_
      by_cases c0 : k = 0
      · subst c0
        simp [dEq_int, hz]
        exact fin n _ b (by omega) rfl
      · by_cases c3 : k < 3
        · have hs : s.natAbs < 18446744073709551616 := by omega
          simp [dEq_int, c0, c3, e1, hz, hs]
          refine fin (n + 1) _ (b + s * (u - 1)) ?_ rfl
          have h1 : s * (u - 1) ≤ 12 := by
            have := Int.mul_le_mul s1 (show u - 1 ≤ 3 by omega)
            rcases (show u - 1 = -1 ∨ u - 1 = 0 ∨ u - 1 = 1 ∨ u - 1 = 2 ∨ u - 1 = 3 by omega) with h | h | h | h | h <;> rw [h] <;> omega
          have h2 : -4 ≤ s * (u - 1) := by
            rcases (show u - 1 = -1 ∨ u - 1 = 0 ∨ u - 1 = 1 ∨ u - 1 = 2 ∨ u - 1 = 3 by omega) with h | h | h | h | h <;> rw [h] <;> omega
          omega
        · simp [dEq_int, c0, c3, e2, hz]
          exact fin (n + 1) _ (w - 4) (by omega) rfl
  · rintro ⟨o, en⟩ ⟨rfl, n, don, rest, f, x4, x7, x8, x9, hr, hds, hb, rfl⟩
    cases rest with
    | cons j rest => cases hds
    | nil =>
      rw [List.append_nil] at hr
      subst hr
      exact ⟨rfl, n, f, x4, x7, x8, x9, fun i hi => hb i (List.mem_reverse.mpr (List.mem_range.mpr hi)), rfl⟩
end Hd
namespace Hd
open PySem PySem.Spec L2 Fx

theorem put_old (g : Nat → D) (v : D) {ks : List Nat} (hb : B4 ks) {i : Nat} (hi : i ∈ ks) : Fx.dictPut (dN g ks) (.inr (nm i)) v = dN (upd g i v) ks := by
  unfold Fx.dictPut
  rw [if_pos]
  · unfold dN
    rw [List.map_map]
    refine List.map_congr_left fun j hj => ?_
    simp only [Function.comp]
    by_cases e : j = i
    · subst e
      simp [upd_same]
    · have hne : ¬ nm j = nm i := fun z => e (nm_inj (hb j hj) (hb i hi) z)
      rw [upd_ne _ _ e]
      simp [hne]
  · exact List.any_eq_true.mpr ⟨_, List.mem_map.mpr ⟨i, hi, rfl⟩, by simp⟩
theorem eT_dN (m : Nat) (f : Sm) : eT m f = .dict (dN (fun i => .int (f i)) (rg m).reverse) := by
  unfold eT
  rw [tD_sD]
  rfl
def Bs (m : Nat) (f : Sm) : Prop := ∀ i, i < m → -20 ≤ f i ∧ f i ≤ 19
theorem rev_b4 {m : Nat} (hm : m ≤ 4) : B4 (rg m).reverse := fun j hj => Nat.lt_of_lt_of_le (rg_lt (List.mem_reverse.mp hj)) hm
theorem ovr_ok {dr : List Int} (hd : Ok997 dr) (n : Nat) {m : Nat} (h1 : 1 ≤ m) (hm : m ≤ 4) {gk : Nat → D} (hk : ∀ i, i < m → KB (gk i)) (LD : List D) (v5 : D) {f : Sm} (hf : Bd m f) (x4 x7 x8 x9 : Option (D × Bool)) : Wp (sIf (tAndF (tB1 (f2 (toO (f2 (toO (f2 (fSlot 3) (toO (f2 (fSlot 1) (svO (fC (.int 0))) dIxA)) dIxA)) (svO (fC (.int 0))) dIxA)) (svO (fC (.int 4))) (dEq))) (tB1 (f2 (toO (fN (aCons (fSlot 1) (aNil)) dLen)) (svO (fC (.int 1))) (isI iGt)))) (sAsg (toV (f2 (toO (f2 (fSlot 6) (toO (f2 (fSlot 1) (svO (fC (.int 1))) dIxA)) dIxA)) (toO (fCallW 1 0 (lCons (fC (.int 2)) (lNil)) F__law_next)) (dAdd))) (gSubD 6 (toV (f2 (fSlot 1) (svO (fC (.int 0))) dIxA)))) (sNx) [some (eW dr n, .lent), some (.list (NM m), .sh), some (.list LD, .own), some (.dict (dN gk (rg m)), .own), jk x4, some (v5, .sh), some (.dict (dN (fun i => .int (f i)) (rg m).reverse), .own), jk x7, jk x8, jk x9]) fun y => y.1 = .nx ∧ ∃ (n : Nat) (f : Sm), Bs m f ∧ y.2 = [some (eW dr n, .lent), some (.list (NM m), .sh), some (.list LD, .own), some (.dict (dN gk (rg m)), .own), jk x4, some (v5, .sh), some (.dict (dN (fun i => .int (f i)) (rg m).reverse), .own), jk x7, jk x8, jk x9] := by
  obtain ⟨k, b, s, hgk, _⟩ := hk 0 (by omega)
  have hdg := dgetN gk (ks := rg m) (fun j hj => Nat.lt_of_lt_of_le (rg_lt hj) hm) (i := 0) (by omega)
  rw [if_pos (show 0 ∈ rg m from List.mem_range.mpr (by omega)), hgk] at hdg
  have n0 : atI (NM m) 0 = some (.str (nm 0)) := at_nat (n := 0) (by unfold NM; rw [List.getElem?_map]; unfold rg; rw [List.getElem?_range (by omega)]; rfl)
  have hl : (NM m).length = m := by unfold NM; rw [List.length_map, rg_len]
  have hfB : Bs m f := fun i hi => by
    have := hf i hi
    omega
  have keep : ∃ (n' : Nat) (f' : Sm), Bs m f' ∧ [some (eW dr n, .lent), some (.list (NM m), .sh), some (.list LD, .own), some (.dict (dN gk (rg m)), .own), jk x4, some (v5, .sh), some (.dict (dN (fun i => .int (f i)) (rg m).reverse), .own), jk x7, jk x8, jk x9] = [some (eW dr n', .lent), some (.list (NM m), .sh), some (.list LD, .own), some (.dict (dN gk (rg m)), .own), jk x4, some (v5, .sh), some (.dict (dN (fun i => .int (f' i)) (rg m).reverse), .own), jk x7, jk x8, jk x9] := ⟨n, f, hfB, rfl⟩
  by_cases c4 : k = 4
  · by_cases c1 : 1 < m
    · have n1 : atI (NM m) 1 = some (.str (nm 1)) := at_nat (n := 1) (by unfold NM; rw [List.getElem?_map]; unfold rg; rw [List.getElem?_range (by omega)]; rfl)
      have hd1 := dgetN (fun i => .int (f i)) (ks := (rg m).reverse) (rev_b4 hm) (i := 1) (by omega)
      rw [if_pos (List.mem_reverse.mpr (show 1 ∈ rg m from List.mem_range.mpr (by omega)))] at hd1
      obtain ⟨u, u0, u1, e1⟩ := next_ex hd n 2 (by decide)
      have po := put_old (fun i => .int (f i)) (.int (f 1 + u)) (rev_b4 hm) (i := 0) (List.mem_reverse.mpr (show 0 ∈ rg m from List.mem_range.mpr (by omega)))
      have hz : (dN (fun i => .int (f i)) (rg m).reverse).length < 16777216 := by rw [dN_len, List.length_reverse, rg_len]; omega
      have e2 : dN (upd (fun i => .int (f i)) 0 (.int (f 1 + u))) (rg m).reverse = dN (fun i => .int (upd f 0 (f 1 + u) i)) (rg m).reverse := by
        unfold dN
        refine List.map_congr_left fun j hj => ?_
        by_cases e : j = 0 <;> simp [upd, e]
      have fin : ∃ (n' : Nat) (f' : Sm), Bs m f' ∧ [some (eW dr (n + 1), .lent), some (.list (NM m), .sh), some (.list LD, .own), some (.dict (dN gk (rg m)), .own), jk x4, some (v5, .sh), some (.dict (Fx.dictPut (dN (fun i => .int (f i)) (rg m).reverse) (.inr (nm 0)) (.int (f 1 + u))), .own), jk x7, jk x8, jk x9] = [some (eW dr n', .lent), some (.list (NM m), .sh), some (.list LD, .own), some (.dict (dN gk (rg m)), .own), jk x4, some (v5, .sh), some (.dict (dN (fun i => .int (f' i)) (rg m).reverse), .own), jk x7, jk x8, jk x9] := by
        refine ⟨n + 1, upd f 0 (f 1 + u), fun i hi => ?_, by rw [po, e2]⟩
        by_cases e : i = 0
        · subst e
          rw [upd_same]
          have := hf 1 c1
          omega
        · rw [upd_ne _ _ e]
          exact hfB i hi
      clear po keep e2 hgk hk
      generalize F__law_next = A0 at *
      generalize hDN : dN (fun i => .int (f i)) (rg m).reverse = DN at *
      generalize dN gk (rg m) = GK at *
      generalize NM m = NA at *
      subst c4
      have ci : (1 : Int) < (m : Int) := by omega
      simp [n0, n1, hdg, hl, ci, hd1, e1, hz, dEq_int]
      simpa using fin
    · clear hk
      generalize F__law_next = A0 at *
      generalize hDN : dN (fun i => .int (f i)) (rg m).reverse = DN at *
      generalize dN gk (rg m) = GK at *
      generalize NM m = NA at *
      subst c4
      have ci : ¬ (1 : Int) < (m : Int) := by omega
      simp [n0, hdg, hl, ci, dEq_int]
      simpa using keep
  · clear hk
    generalize F__law_next = A0 at *
    generalize hDN : dN (fun i => .int (f i)) (rg m).reverse = DN at *
    generalize dN gk (rg m) = GK at *
    generalize NM m = NA at *
    simp [n0, hdg, c4, dEq_int]
    simpa using keep
end Hd
namespace Hd
open PySem PySem.Spec L2 Fx

def IOu (dr : List Int) (m : Nat) (gk : Nat → D) (tot : Nat) (ds : List D) (en : En) : Prop := ∃ (n : Nat) (L : List Sm) (x4 x5 x7 x8 x9 : Option (D × Bool)) (x6 : Option D), (∀ f ∈ L, Bs m f) ∧ ds.length + L.length = tot ∧ en = [some (eW dr n, .lent), some (.list (NM m), .sh), some (.list (L.map (eT m)), .own), some (.dict (dN gk (rg m)), .own), jk x4, jk x5, x6.map fun d => (d, Fl.sh), jk x7, jk x8, jk x9]
theorem samples_ok {dr : List Int} (hd : Ok997 dr) (n : Nat) : ∃ (n' m : Nat) (L : List Sm), GL m L ∧ F__law_samples (eW dr n) [] = some (eL m L, false, eW dr n') := by
  have fin : Wp (F__law_samples (eW dr n) []) (fun y => ∃ (n' m : Nat) (L : List Sm), GL m L ∧ y = (eL m L, false, eW dr n')) := by
    show Wp (mkW 10 b__law_samples _ _) _
    rw [mkW_e, wp_bind]
    show Wp (b__law_samples [some (eW dr n, .lent), none, none, none, none, none, none, none, none, none]) _
    unfold b__law_samples
    obtain ⟨v, v1, e1⟩ := next_nat hd n 4 (by omega)
    have e1' : F__law_next (eW dr n) [.int 4] = some (.int (v : Int), false, eW dr (n + 1)) := e1
    have e2 : dSl (.list [.str (Str.ofString "a"), .str (Str.ofString "b2"), .str (Str.ofString "c"), .str (Str.ofString "d")]) none (some (1 + (v : Int))) = some (.list (NM (v + 1)), true) := by
      rw [Int.add_comm, dSl_lk1, names_tk v1]
    have h1 : 1 ≤ v + 1 := by omega
    have hm : v + 1 ≤ 4 := by omega
    rw [wp_sSeq]
    simp [e1', e2]
    refine later_i ?_
    generalize v + 1 = m at *
    clear e1 e1' e2
    rw [wp_sSeq]
    have kk := kinds_ok hd (n + 1) hm
    obtain ⟨y, ek, n2, gk, hk, rfl⟩ := kk
    have dd := dDict_names gk (rg_nd m (fun _ => true)) (fun i hi => Nat.lt_of_lt_of_le (rg_lt (List.mem_filter.mp hi).1) hm)
    rw [filt_true] at dd
    generalize n + 1 = n1 at *
    refine wp_of (y := (Out.nx, ([some (eW dr n2, .lent), some (.list (NM m), .sh), some (.list [], .own), some (.dict (dN gk (rg m)), .own), none, none, none, none, none, none] : En))) (by simp [ek, dd, -List.map_map]) ?_
    refine later_i ?_
    clear ek dd
    obtain ⟨u, u1, e3⟩ := next_nat hd n2 5 (by omega)
    have e3' : F__law_next (eW dr n2) [.int 5] = some (.int (u : Int), false, eW dr (n2 + 1)) := e3
    have er : range1D [.int (1 + (u : Int))] = some ((List.range (u + 1)).map iD) := by
      rw [Int.add_comm]
      exact range1_i (n := u + 1) (by omega)
    rw [wp_sSeq, wp_sFor]
    refine wp_of (y := ((List.range (u + 1)).map iD, ([some (eW dr (n2 + 1), .lent), some (.list (NM m), .sh), some (.list [], .own), some (.dict (dN gk (rg m)), .own), none, none, none, none, none, none] : En))) (itR_at (hs := [.tv (.int (1 + (u : Int)))]) (ds := [.int (1 + (u : Int))]) (by simp [e3']) (by simp) er) ?_
    refine wp_mono (for_inv (IOu dr m gk (u + 1)) (Q := fun y => y.1 = .nx ∧ IOu dr m gk (u + 1) [] y.2) ?_ (fun en h => ⟨rfl, h⟩) _ _ ⟨n2 + 1, [], none, none, none, none, none, none, fun f hf => (by cases hf), by simp, rfl⟩) ?_
    · rintro d r en ⟨n, L, x4, x5, x7, x8, x9, x6, hL, htot, rfl⟩
      rw [List.length_cons] at htot
      refine wp_of (y := ([some (eW dr n, .lent), some (.list (NM m), .sh), some (.list (L.map (eT m)), .own), some (.dict (dN gk (rg m)), .own), jk x4, some (d, .sh), x6.map fun d => (d, Fl.sh), jk x7, jk x8, jk x9] : En)) (by simp) ?_
      rw [wp_sSeq]
      refine wp_of (y := (Out.nx, ([some (eW dr n, .lent), some (.list (NM m), .sh), some (.list (L.map (eT m)), .own), some (.dict (dN gk (rg m)), .own), jk x4, some (d, .sh), some (.dict [], .own), jk x7, jk x8, jk x9] : En))) (by cases x6 <;> simp) ?_
      refine later_i ?_
      rw [wp_sSeq]
      refine wp_mono (one_ok hd n hm hk (L.map (eT m)) d x4 x7 x8 x9) ?_
      rintro ⟨o, en⟩ ⟨rfl, n, f, x4, x7, x8, x9, hf, rfl⟩
      refine later_i ?_
      rw [wp_sSeq]
      refine wp_mono (ovr_ok hd n h1 hm hk (L.map (eT m)) d hf x4 x7 x8 x9) ?_
      rintro ⟨o, en⟩ ⟨rfl, n, f, hf, rfl⟩
      refine later_i ?_
      rw [← eT_dN]
      have hz : L.length < 16777216 := by omega
      refine wp_of (y := (Out.nx, ([some (eW dr n, .lent), some (.list (NM m), .sh), some (.list ((L ++ [f]).map (eT m)), .own), some (.dict (dN gk (rg m)), .own), jk x4, some (d, .sh), some (eT m f, .sh), jk x7, jk x8, jk x9] : En))) ?_ ?_
      · generalize dN gk (rg m) = GK at *
        simp [hz]
      · exact ⟨n, L ++ [f], x4, some (d, false), x7, x8, x9, some (eT m f), fun g hg => by
          rcases List.mem_append.mp hg with hg | hg
          · exact hL g hg
          · rw [List.mem_singleton.mp hg]; exact hf, by rw [List.length_append, List.length_singleton]; omega, rfl⟩
    · rintro ⟨o, en⟩ ⟨rfl, n, L, x4, x5, x7, x8, x9, x6, hL, htot, rfl⟩
      rw [List.length_nil] at htot
      refine later_i ?_
      generalize dN gk (rg m) = GK at *
      have g : GL m L := ⟨h1, hm, (fun e => by rw [e] at htot; simp at htot), by omega, fun f hf i hi => hL f hf i hi⟩
      have er : eL m L = .tuple (L.map (eT m)) := rfl
      generalize hQ : L.map (eT m) = QL at *
      simp
      exact ⟨n, m, L, g, er.symm, rfl⟩
  obtain ⟨y, e, n', m, L, h, rfl⟩ := fin
  exact ⟨n', m, L, h, e⟩
end Hd
namespace Hd
open PySem PySem.Spec L2 Fx

/-! ### names -/
theorem isn_nm {i : Nat} (h : i < 4) : F_is_name [.str (nm i)] = some (.bool true, false) := by
  match i, h with
  | 0, _ => kernel_rfl
  | 1, _ => kernel_rfl
  | 2, _ => kernel_rfl
  | 3, _ => kernel_rfl
theorem isn_A : F_is_name [.str (Str.ofString "A")] = some (.bool false, false) := by kernel_rfl
theorem isn_0 : F_is_name [.str (Str.ofString "")] = some (.bool false, false) := by kernel_rfl
theorem isn_1 : F_is_name [.int 1] = some (.bool false, false) := by kernel_rfl
theorem ln_nm {i : Nat} (h : i < 4) (S0 S1 : D) (x3 : Option (D × Fl)) : sIf (tOrF (tNotF (tB1 (fIsi (fSlot 2) "str"))) (tOrF (tB1 (f2 (fSlot 2) (svO (fC (.str ""))) (dEq))) (tOrF (tNotF (tB1 (fChain (svO (fC (.str "a"))) (toO (f2 (fSlot 2) (svO (fC (.int 0))) dIxA)) (dLeS) (dLeS) (svO (fC (.str "z")))))) (tB1 (f2 (toO (fLc [3] (itV (fName 2)) (gN 3) (tNotF (tOrF (tB1 (fChain (svO (fC (.str "a"))) (fSlot 3) (dLeS) (dLeS) (svO (fC (.str "z"))))) (tB1 (fChain (svO (fC (.str "0"))) (fSlot 3) (dLeS) (dLeS) (svO (fC (.str "9"))))))) (fName 3))) (toO (fLst (lNil))) (dNe)))))) (sRet (ofV (fC (.bool false)))) (sNx) [some (S0, .sh), some (S1, .sh), some (.str (nm i), .sh), none] = some (.nx, [some (S0, .sh), some (S1, .sh), some (.str (nm i), .sh), none]) := by
  match i, h with
  | 0, _ => kernel_rfl
  | 1, _ => kernel_rfl
  | 2, _ => kernel_rfl
  | 3, _ => kernel_rfl

theorem ln_A (S0 S1 : D) : ∃ en, sIf (tOrF (tNotF (tB1 (fIsi (fSlot 2) "str"))) (tOrF (tB1 (f2 (fSlot 2) (svO (fC (.str ""))) (dEq))) (tOrF (tNotF (tB1 (fChain (svO (fC (.str "a"))) (toO (f2 (fSlot 2) (svO (fC (.int 0))) dIxA)) (dLeS) (dLeS) (svO (fC (.str "z")))))) (tB1 (f2 (toO (fLc [3] (itV (fName 2)) (gN 3) (tNotF (tOrF (tB1 (fChain (svO (fC (.str "a"))) (fSlot 3) (dLeS) (dLeS) (svO (fC (.str "z"))))) (tB1 (fChain (svO (fC (.str "0"))) (fSlot 3) (dLeS) (dLeS) (svO (fC (.str "9"))))))) (fName 3))) (toO (fLst (lNil))) (dNe)))))) (sRet (ofV (fC (.bool false)))) (sNx) [some (S0, .sh), some (S1, .sh), some (.str (Str.ofString "A"), .sh), none] = some (.rt (.bool false) false, en) := ⟨[some (S0, .sh), some (S1, .sh), some (.str (Str.ofString "A"), .sh), none], by kernel_rfl⟩
theorem ln_0 (S0 S1 : D) : ∃ en, sIf (tOrF (tNotF (tB1 (fIsi (fSlot 2) "str"))) (tOrF (tB1 (f2 (fSlot 2) (svO (fC (.str ""))) (dEq))) (tOrF (tNotF (tB1 (fChain (svO (fC (.str "a"))) (toO (f2 (fSlot 2) (svO (fC (.int 0))) dIxA)) (dLeS) (dLeS) (svO (fC (.str "z")))))) (tB1 (f2 (toO (fLc [3] (itV (fName 2)) (gN 3) (tNotF (tOrF (tB1 (fChain (svO (fC (.str "a"))) (fSlot 3) (dLeS) (dLeS) (svO (fC (.str "z"))))) (tB1 (fChain (svO (fC (.str "0"))) (fSlot 3) (dLeS) (dLeS) (svO (fC (.str "9"))))))) (fName 3))) (toO (fLst (lNil))) (dNe)))))) (sRet (ofV (fC (.bool false)))) (sNx) [some (S0, .sh), some (S1, .sh), some (.str (Str.ofString ""), .sh), none] = some (.rt (.bool false) false, en) := ⟨[some (S0, .sh), some (S1, .sh), some (.str (Str.ofString ""), .sh), none], by kernel_rfl⟩
theorem ln_1 (S0 S1 : D) : ∃ en, sIf (tOrF (tNotF (tB1 (fIsi (fSlot 2) "str"))) (tOrF (tB1 (f2 (fSlot 2) (svO (fC (.str ""))) (dEq))) (tOrF (tNotF (tB1 (fChain (svO (fC (.str "a"))) (toO (f2 (fSlot 2) (svO (fC (.int 0))) dIxA)) (dLeS) (dLeS) (svO (fC (.str "z")))))) (tB1 (f2 (toO (fLc [3] (itV (fName 2)) (gN 3) (tNotF (tOrF (tB1 (fChain (svO (fC (.str "a"))) (fSlot 3) (dLeS) (dLeS) (svO (fC (.str "z"))))) (tB1 (fChain (svO (fC (.str "0"))) (fSlot 3) (dLeS) (dLeS) (svO (fC (.str "9"))))))) (fName 3))) (toO (fLst (lNil))) (dNe)))))) (sRet (ofV (fC (.bool false)))) (sNx) [some (S0, .sh), some (S1, .sh), some (.int 1, .sh), none] = some (.rt (.bool false) false, en) := ⟨[some (S0, .sh), some (S1, .sh), some (.int 1, .sh), none], by kernel_rfl⟩
theorem num_i (i : Int) : F_is_number [.int i] = some (.bool true, false) := by simp [F_is_number, b_is_number]
theorem num_b (i : Bool) : F_is_number [.bool i] = some (.bool false, false) := by simp [F_is_number, b_is_number]
theorem num_s (i : Str) : F_is_number [.str i] = some (.bool false, false) := by simp [F_is_number, b_is_number]
theorem lnum (d : D) : F__law_is_number [d] = F_is_number [d] := rfl
/-! ### things that may be samples -/
abbrev Es := List (D × D)
structure Ent (cn cm : D → Bool) (so : Es → List D) (es : Es) : Prop where
  ix : ∀ p ∈ es, dIxA (.dict es) p.1 = some (p.2, false)
  nm : ∀ p ∈ es, F_is_name [p.1] = some (.bool (cn p.1), false)
  nb : ∀ p ∈ es, F_is_number [p.2] = some (.bool (cm p.2), false)
  l1 : ∀ p ∈ es, cn p.1 = true → ∀ S0 S1 : D, sIf (tOrF (tNotF (tB1 (fIsi (fSlot 2) "str"))) (tOrF (tB1 (f2 (fSlot 2) (svO (fC (.str ""))) (dEq))) (tOrF (tNotF (tB1 (fChain (svO (fC (.str "a"))) (toO (f2 (fSlot 2) (svO (fC (.int 0))) dIxA)) (dLeS) (dLeS) (svO (fC (.str "z")))))) (tB1 (f2 (toO (fLc [3] (itV (fName 2)) (gN 3) (tNotF (tOrF (tB1 (fChain (svO (fC (.str "a"))) (fSlot 3) (dLeS) (dLeS) (svO (fC (.str "z"))))) (tB1 (fChain (svO (fC (.str "0"))) (fSlot 3) (dLeS) (dLeS) (svO (fC (.str "9"))))))) (fName 3))) (toO (fLst (lNil))) (dNe)))))) (sRet (ofV (fC (.bool false)))) (sNx) [some (S0, .sh), some (S1, .sh), some (p.1, .sh), none] = some (.nx, [some (S0, .sh), some (S1, .sh), some (p.1, .sh), none])
  l0 : ∀ p ∈ es, cn p.1 = false → ∀ S0 S1 : D, ∃ en, sIf (tOrF (tNotF (tB1 (fIsi (fSlot 2) "str"))) (tOrF (tB1 (f2 (fSlot 2) (svO (fC (.str ""))) (dEq))) (tOrF (tNotF (tB1 (fChain (svO (fC (.str "a"))) (toO (f2 (fSlot 2) (svO (fC (.int 0))) dIxA)) (dLeS) (dLeS) (svO (fC (.str "z")))))) (tB1 (f2 (toO (fLc [3] (itV (fName 2)) (gN 3) (tNotF (tOrF (tB1 (fChain (svO (fC (.str "a"))) (fSlot 3) (dLeS) (dLeS) (svO (fC (.str "z"))))) (tB1 (fChain (svO (fC (.str "0"))) (fSlot 3) (dLeS) (dLeS) (svO (fC (.str "9"))))))) (fName 3))) (toO (fLst (lNil))) (dNe)))))) (sRet (ofV (fC (.bool false)))) (sNx) [some (S0, .sh), some (S1, .sh), some (p.1, .sh), none] = some (.rt (.bool false) false, en)
  so : dSort [.dict es] = some (.list (so es), true)
  len : es.length ≤ 1000
def ok1 (cn cm : D → Bool) (es : Es) : Bool := es.all fun p => cn p.1 && cm p.2
def okT (cn cm : D → Bool) (ne : Es → Bool) (T : List Es) : Bool := T.all fun es => ok1 cn cm es && !ne es
def eD (es : Es) : D := .dict es
theorem are_ok {cn cm : D → Bool} {so : Es → List D} {ne : Es → Bool} {T : List Es} (hT : T ≠ []) (hl : T.length ≤ 1000) (h : ∀ es ∈ T, Ent cn cm so es) {nn : List D} (gk : D → D) (hgk : ∀ p ∈ T.headD [], dStrA [p.1] = some (gk p.1, false)) (hn : dSort [.list ((T.headD []).map fun p => gk p.1)] = some (.list nn, true)) (hne : ∀ es ∈ T, dNe (.list (so es)) (.list nn) = some (.bool (ne es), false)) : F_are_samples [.tuple (T.map eD)] = some (.bool (okT cn cm ne T), false) := by
  obtain ⟨e0, r0, rfl⟩ : ∃ e r, T = e :: r := by
    cases T with
    | nil => exact absurd rfl hT
    | cons e r => exact ⟨e, r, rfl⟩
  simp only [List.headD_cons] at *
  have hdi : ∀ es : Es, tyD (eD es) = "dict" := fun es => rfl
  have lc1 : fLc [1] (itV (fName 0)) (gN 1) (tTrue) (toV (fIsi (fSlot 1) "dict")) [some (.tuple ((e0 :: r0).map eD), .sh), none, none, none] = some (.list ((e0 :: r0).map fun _ => .bool true), true, [some (.tuple ((e0 :: r0).map eD), .sh), none, none, none]) := by
    refine (fLc_typ eD (e0 :: r0) (fun _ => true) (fun _ => .bool true) (en1 := [some (.tuple ((e0 :: r0).map eD), .sh), none, none, none]) ?_ rfl rfl (by rw [sl_ok]; omega) (fun es hes => ?_)).trans (by rw [filt_true]; rfl)
    · rw [e_itV]
      simp
    · have := hdi es
      generalize eD es = S1 at *
      generalize (e0 :: r0).map eD = QT at *
      refine ⟨[some (.tuple QT, .sh), some (S1, .sh), none, none], ?_, ?_, fun _ => ?_, rfl⟩
      · simp [wipeE]
      · simp
      · simp [this]
  have ba := dAll_map (fun _ : Es => true) (e0 :: r0)
  have ba2 : ((e0 :: r0).all fun _ => true) = true := List.all_eq_true.mpr fun _ _ => rfl
  rw [ba2] at ba
  have le0 := (h e0 (List.mem_cons_self ..)).len
  have lc2 : ∀ x1 : Option (D × Fl), fLc [3] (itE (toV (f2 (fSlot 0) (svO (fC (.int 0))) dIxA))) (gN 3) (tTrue) (toV (fN (aCons (fSlot 3) (aNil)) dStrA)) [some (.tuple ((e0 :: r0).map eD), .sh), x1, none, none] = some (.list (e0.map fun p => gk p.1), true, [some (.tuple ((e0 :: r0).map eD), .sh), x1, none, none]) := fun x1 => by
    refine (fLc_typ (fun p : D × D => p.1) e0 (fun _ => true) (fun p => gk p.1) (en1 := [some (.tuple ((e0 :: r0).map eD), .sh), x1, none, none]) ?_ rfl rfl (by rw [sl_ok]; omega) (fun p hp => ?_)).trans (by rw [filt_true]; rfl)
    · rw [e_itE]
      simp [eD]
    · have hq := hgk p hp
      generalize (e0 :: r0).map eD = QT at *
      refine ⟨[some (.tuple QT, .sh), x1, none, some (p.1, .sh)], ?_, ?_, fun _ => ?_, rfl⟩
      · simp [wipeE]
      · simp
      · simp [hq]
  have lc3 : ∀ es ∈ e0 :: r0, ∀ (N : D) (fl : Fl), fLc [3] (itE (fName 1)) (gN 3) (tTrue) (toV (fAnd (fCall 1 (lCons (fName 3) (lNil)) F_is_name) (fCall 1 (lCons (toV (f2 (fSlot 1) (fSlot 3) dIxA)) (lNil)) F_is_number))) [some (.tuple ((e0 :: r0).map eD), .sh), some (eD es, .sh), some (N, fl), none] = some (.list (es.map fun p => .bool (cn p.1 && cm p.2)), true, [some (.tuple ((e0 :: r0).map eD), .sh), some (eD es, .sh), some (N, fl), none]) := fun es hes N fl => by
    have H := h es hes
    have hle := H.len
    refine (fLc_typ (fun p : D × D => p.1) es (fun _ => true) (fun p => .bool (cn p.1 && cm p.2)) (en1 := [some (.tuple ((e0 :: r0).map eD), .sh), some (eD es, .sh), some (N, fl), none]) ?_ rfl rfl (by rw [sl_ok]; omega) (fun p hp => ?_)).trans (by rw [filt_true]; rfl)
    · rw [e_itE]
      simp [eD]
    · have q1 := H.nm p hp
      have q2 := H.nb p hp
      have q3 : dIxA (eD es) p.1 = some (p.2, false) := H.ix p hp
      generalize (e0 :: r0).map eD = QT at *
      generalize F_is_name = A1 at *
      generalize F_is_number = A2 at *
      generalize eD es = S1 at *
      refine ⟨[some (.tuple QT, .sh), some (S1, .sh), some (N, fl), some (p.1, .sh)], ?_, ?_, fun _ => ?_, rfl⟩
      · simp [wipeE]
      · simp
      · cases hcn : cn p.1 with
        | true =>
          rw [hcn] at q1
          simp [q1, q2, q3]
        | false =>
          rw [hcn] at q1
          simp [q1]
  have e0d : dIxA (.tuple ((e0 :: r0).map eD)) (.int 0) = some (eD e0, false) := by simp
  have hne0 : dEqT (.tuple ((e0 :: r0).map eD)) (.tuple []) = some (.bool false, false) := rfl
  have body : ∀ es ∈ e0 :: r0, sIf (tOrF (tNotF (tB1 (fN (aCons (toO (fLc [3] (itE (fName 1)) (gN 3) (tTrue) (toV (fAnd (fCall 1 (lCons (fName 3) (lNil)) F_is_name) (fCall 1 (lCons (toV (f2 (fSlot 1) (fSlot 3) dIxA)) (lNil)) F_is_number))))) (aNil)) dAll))) (tB1 (f2 (toO (fN (aCons (fSlot 1) (aNil)) dSort)) (fSlot 2) (dNe)))) (sRet (ofV (fC (.bool false)))) (sNx) [some (.tuple ((e0 :: r0).map eD), .sh), some (eD es, .sh), some (.list nn, .own), none] = some (if (ok1 cn cm es && !ne es) = true then .nx else .rt (.bool false) false, [some (.tuple ((e0 :: r0).map eD), .sh), some (eD es, .sh), some (.list nn, .own), none]) := fun es hes => by
    have q1 := lc3 es hes (.list nn) .own
    have q2 := dAll_map (fun p : D × D => cn p.1 && cm p.2) es
    have q3 : dSort [eD es] = some (.list (so es), true) := (h es hes).so
    have q4 := hne es hes
    have q5 : ok1 cn cm es = es.all fun p => cn p.1 && cm p.2 := rfl
    rw [q5]
    generalize (es.all fun p => cn p.1 && cm p.2) = c at *
    generalize (es.map fun p => PyData.bool (cn p.1 && cm p.2)) = M at *
    generalize (e0 :: r0).map eD = QT at *
    generalize F_is_name = A1 at *
    generalize F_is_number = A2 at *
    generalize eD es = S1 at *
    generalize ne es = z at *
    cases c with
    | false => simp [q1, q2]
    | true => cases z <;> simp [q1, q2, q3, q4]
  refine wp_val ?_
  show Wp (mk0 4 b_are_samples _) _
  rw [mk0_e, wp_bind]
  show Wp (b_are_samples [some (.tuple ((e0 :: r0).map eD), .sh), none, none, none]) _
  unfold b_are_samples
  have hit : seqD (.tuple ((e0 :: r0).map eD)) = some ((e0 :: r0).map eD) := rfl
  generalize hTT : e0 :: r0 = TT at *
  generalize hQT : TT.map eD = QT at *
  generalize F_is_name = A1 at *
  generalize F_is_number = A2 at *
  rw [wp_sSeq]
  refine wp_of (y := (Out.nx, ([some (.tuple QT, .sh), none, none, none] : En))) (by simp [hne0, lc1, ba]) ?_
  refine later_i ?_
  rw [wp_sSeq]
  refine wp_of (y := (Out.nx, ([some (.tuple QT, .sh), none, some (.list nn, .own), none] : En))) (by simp [lc2, hn]) ?_
  refine later_i ?_
  rw [wp_sSeq, wp_sFor, wp_itV]
  refine wp_of (y := (PyData.tuple QT, ([some (.tuple QT, .sh), none, some (.list nn, .own), none] : En))) (by simp) ?_
  refine wp_of (y := QT) hit ?_
  refine wp_mono (for_inv (fun ds en => ∃ (rest : List Es) (x1 : Option (D × Bool)), (∀ es ∈ rest, es ∈ TT) ∧ ds = rest.map eD ∧ okT cn cm ne TT = okT cn cm ne rest ∧ en = [some (.tuple QT, .sh), jk x1, some (.list nn, .own), none]) (Q := fun y => (y.1 = .nx ∧ okT cn cm ne TT = true) ∨ (y.1 = .rt (.bool false) false ∧ okT cn cm ne TT = false)) ?_ ?_ _ _ ⟨TT, none, fun _ h => h, hQT.symm, rfl, rfl⟩) ?_
  · rintro d r en ⟨rest, x1, hin, hds, hok, rfl⟩
    cases rest with
    | nil => cases hds
    | cons es rest =>
      obtain ⟨rfl, rfl⟩ := List.cons.inj hds
      have hb := body es (hin es (List.mem_cons_self ..))
      refine wp_of (y := ([some (.tuple QT, .sh), some (eD es, .sh), some (.list nn, .own), none] : En)) (by simp) ?_
      refine wp_of hb ?_
      have hc : okT cn cm ne (es :: rest) = ((ok1 cn cm es && !ne es) && okT cn cm ne rest) := List.all_cons
      rw [hc] at hok
      cases hz : (ok1 cn cm es && !ne es) with
      | true =>
        rw [hz] at hok
        exact ⟨rest, some (eD es, false), fun x hx => hin x (List.mem_cons_of_mem _ hx), rfl, by rw [hok]; rfl, rfl⟩
      | false =>
        rw [hz] at hok
        exact .inr ⟨rfl, by rw [hok]; rfl⟩
  · rintro en ⟨rest, x1, hin, hds, hok, rfl⟩
    cases rest with
    | nil => exact .inl ⟨rfl, hok⟩
    | cons es rest => cases hds
  · rintro ⟨o, en⟩ (⟨rfl, e⟩ | ⟨rfl, e⟩)
    · rw [e]
      refine later_i ?_
      exact ⟨_, rfl, _, rfl, rfl⟩
    · rw [e]
      exact ⟨_, rfl, rfl⟩
end Hd
namespace Hd
open PySem PySem.Spec L2 Fx

theorem seq_nx {a b : Sv} {en en1 : En} (h : a en = some (.nx, en1)) : sSeq a b en = b en1 := by
  unfold sSeq
  rw [h]
  rfl
theorem seq_rt {a b : Sv} {en en1 : En} {d : D} {c : Bool} (h : a en = some (.rt d c, en1)) : sSeq a b en = some (.rt d c, en1) := by
  unfold sSeq
  rw [h]
  rfl
theorem lare_ok {cn cm : D → Bool} {so : Es → List D} {ne : Es → Bool} {T : List Es} (hT : T ≠ []) (hl : T.length ≤ 1000) (h : ∀ es ∈ T, Ent cn cm so es) (hne : ∀ es ∈ T, dNe (.list (so es)) (.list (so (T.headD []))) = some (.bool (ne es), false)) : F__law_are [.tuple (T.map eD)] = some (.bool (okT cn cm ne T), false) := by
  obtain ⟨e0, r0, rfl⟩ : ∃ e r, T = e :: r := by
    cases T with
    | nil => exact absurd rfl hT
    | cons e r => exact ⟨e, r, rfl⟩
  simp only [List.headD_cons] at *
  have hdi : ∀ es : Es, tyD (eD es) = "dict" := fun es => rfl
  have n2 : dNe (.list []) (.list []) = some (.bool false, false) := dNe_same (k := 1) (Sh.lst (k := 0) fun d hd => by cases hd) (by omega)
  have lc1 : fLc [1] (itV (fName 0)) (gN 1) (tNotF (tB1 (fIsi (fSlot 1) "dict"))) (fName 1) [some (.tuple ((e0 :: r0).map eD), .sh), none, none, none] = some (.list [], true, [some (.tuple ((e0 :: r0).map eD), .sh), none, none, none]) := by
    refine (fLc_typ eD (e0 :: r0) (fun _ => false) eD (en1 := [some (.tuple ((e0 :: r0).map eD), .sh), none, none, none]) ?_ rfl rfl (by rw [sl_ok]; omega) (fun es hes => ?_)).trans (by rw [show (e0 :: r0).filter (fun _ => false) = [] from List.filter_eq_nil_iff.mpr fun _ _ z => by cases z]; rfl)
    · rw [e_itV]
      simp
    · have := hdi es
      generalize eD es = S1 at *
      generalize (e0 :: r0).map eD = QT at *
      refine ⟨[some (.tuple QT, .sh), some (S1, .sh), none, none], ?_, ?_, fun z => (by cases z), rfl⟩
      · simp [wipeE]
      · simp [this]
  have e0d : dIxA (.tuple ((e0 :: r0).map eD)) (.int 0) = some (eD e0, false) := by simp
  have hne0 : dEqT (.tuple ((e0 :: r0).map eD)) (.tuple []) = some (.bool false, false) := rfl
  have s0 : dSort [eD e0] = some (.list (so e0), true) := (h e0 (List.mem_cons_self ..)).so
  have hit : seqD (.tuple ((e0 :: r0).map eD)) = some ((e0 :: r0).map eD) := rfl
  generalize hTT : e0 :: r0 = TT at *
  have inner : ∀ es ∈ TT, ∀ x2 : Option (D × Bool), Wp (sFor (itE (fName 1)) (gN 2) (sSeq (sIf (tOrF (tNotF (tB1 (fIsi (fSlot 2) "str"))) (tOrF (tB1 (f2 (fSlot 2) (svO (fC (.str ""))) (dEq))) (tOrF (tNotF (tB1 (fChain (svO (fC (.str "a"))) (toO (f2 (fSlot 2) (svO (fC (.int 0))) dIxA)) (dLeS) (dLeS) (svO (fC (.str "z")))))) (tB1 (f2 (toO (fLc [3] (itV (fName 2)) (gN 3) (tNotF (tOrF (tB1 (fChain (svO (fC (.str "a"))) (fSlot 3) (dLeS) (dLeS) (svO (fC (.str "z"))))) (tB1 (fChain (svO (fC (.str "0"))) (fSlot 3) (dLeS) (dLeS) (svO (fC (.str "9"))))))) (fName 3))) (toO (fLst (lNil))) (dNe)))))) (sRet (ofV (fC (.bool false)))) (sNx)) (sIf (tNotF (tB1 (fCall 1 (lCons (toV (f2 (fSlot 1) (fSlot 2) dIxA)) (lNil)) F__law_is_number))) (sRet (ofV (fC (.bool false)))) (sNx))) [some (.tuple (TT.map eD), .sh), some (eD es, .sh), jk x2, none]) fun y => (y.1 = .nx ∧ ok1 cn cm es = true ∧ ∃ x2 : Option (D × Bool), y.2 = [some (.tuple (TT.map eD), .sh), some (eD es, .sh), jk x2, none]) ∨ (y.1 = .rt (.bool false) false ∧ ok1 cn cm es = false) := fun es hes x2 => by
    have H := h es hes
    generalize TT.map eD = QT at *
    rw [wp_sFor]
    refine wp_of (y := (es.map fun p => p.1, ([some (.tuple QT, .sh), some (eD es, .sh), jk x2, none] : En))) (by rw [e_itE]; simp [eD]) ?_
    refine wp_mono (for_inv (fun ds en => ∃ (rest : Es) (x2 : Option (D × Bool)), (∀ p ∈ rest, p ∈ es) ∧ ds = (rest.map fun p => p.1) ∧ ok1 cn cm es = ok1 cn cm rest ∧ en = [some (.tuple QT, .sh), some (eD es, .sh), jk x2, none]) (Q := fun y => (y.1 = .nx ∧ ok1 cn cm es = true ∧ ∃ x2 : Option (D × Bool), y.2 = [some (.tuple QT, .sh), some (eD es, .sh), jk x2, none]) ∨ (y.1 = .rt (.bool false) false ∧ ok1 cn cm es = false)) ?_ ?_ _ _ ⟨es, x2, fun _ h => h, rfl, rfl, rfl⟩) (fun y hy => hy)
    · rintro d r en ⟨rest, x2, hin, hds, hok, rfl⟩
      cases rest with
      | nil => cases hds
      | cons p rest =>
        obtain ⟨rfl, rfl⟩ := List.cons.inj hds
        have hp := hin p (List.mem_cons_self ..)
        refine wp_of (y := ([some (.tuple QT, .sh), some (eD es, .sh), some (p.1, .sh), none] : En)) (by simp) ?_
        have hc : ok1 cn cm (p :: rest) = ((cn p.1 && cm p.2) && ok1 cn cm rest) := List.all_cons
        rw [hc] at hok
        cases hcn : cn p.1 with
        | false =>
          rw [hcn] at hok
          obtain ⟨en, e⟩ := H.l0 p hp hcn (.tuple QT) (eD es)
          refine wp_of (y := (Out.rt (.bool false) false, en)) ?_ (.inr ⟨rfl, by rw [hok]; rfl⟩)
          rw [seq_rt e]
        | true =>
          rw [hcn] at hok
          have e := H.l1 p hp hcn (.tuple QT) (eD es)
          have q2 := H.nb p hp
          rw [← lnum] at q2
          have q3 : dIxA (eD es) p.1 = some (p.2, false) := H.ix p hp
          cases hcm : cm p.2 with
          | true =>
            rw [hcm] at hok q2
            refine wp_of (y := (Out.nx, ([some (.tuple QT, .sh), some (eD es, .sh), some (p.1, .sh), none] : En))) ?_ ⟨rest, some (p.1, false), fun x hx => hin x (List.mem_cons_of_mem _ hx), rfl, by rw [hok]; rfl, rfl⟩
            rw [seq_nx e]
            generalize F__law_is_number = A1 at *
            generalize eD es = S1 at *
            simp [q2, q3]
          | false =>
            rw [hcm] at hok q2
            refine wp_of (y := (Out.rt (.bool false) false, ([some (.tuple QT, .sh), some (eD es, .sh), some (p.1, .sh), none] : En))) ?_ (.inr ⟨rfl, by rw [hok]; rfl⟩)
            rw [seq_nx e]
            generalize F__law_is_number = A1 at *
            generalize eD es = S1 at *
            simp [q2, q3]
    · rintro en ⟨rest, x2, hin, hds, hok, rfl⟩
      cases rest with
      | nil => exact .inl ⟨rfl, hok, x2, rfl⟩
      | cons es rest => cases hds
  refine wp_val ?_
  show Wp (mk0 4 b__law_are _) _
  rw [mk0_e, wp_bind]
  show Wp (b__law_are [some (.tuple (TT.map eD), .sh), none, none, none]) _
  unfold b__law_are
  generalize hQT : TT.map eD = QT at *
  rw [wp_sSeq]
  refine wp_of (y := (Out.nx, ([some (.tuple QT, .sh), none, none, none] : En))) (by simp [hne0, lc1, n2]) ?_
  refine later_i ?_
  rw [wp_sSeq, wp_sFor, wp_itV]
  refine wp_of (y := (PyData.tuple QT, ([some (.tuple QT, .sh), none, none, none] : En))) (by simp) ?_
  refine wp_of (y := QT) hit ?_
  refine wp_mono (for_inv (fun ds en => ∃ (rest : List Es) (x1 x2 : Option (D × Bool)), (∀ es ∈ rest, es ∈ TT) ∧ ds = rest.map eD ∧ okT cn cm ne TT = okT cn cm ne rest ∧ en = [some (.tuple QT, .sh), jk x1, jk x2, none]) (Q := fun y => (y.1 = .nx ∧ okT cn cm ne TT = true) ∨ (y.1 = .rt (.bool false) false ∧ okT cn cm ne TT = false)) ?_ ?_ _ _ ⟨TT, none, none, fun _ h => h, hQT.symm, rfl, rfl⟩) ?_
  · rintro d r en ⟨rest, x1, x2, hin, hds, hok, rfl⟩
    cases rest with
    | nil => cases hds
    | cons es rest =>
      obtain ⟨rfl, rfl⟩ := List.cons.inj hds
      have hes := hin es (List.mem_cons_self ..)
      refine wp_of (y := ([some (.tuple QT, .sh), some (eD es, .sh), jk x2, none] : En)) (by simp) ?_
      have hc : okT cn cm ne (es :: rest) = ((ok1 cn cm es && !ne es) && okT cn cm ne rest) := List.all_cons
      rw [hc] at hok
      obtain ⟨⟨o, en⟩, ei, hi⟩ := inner es hes x2
      rcases hi with ⟨rfl, hi, x2, rfl⟩ | ⟨rfl, hi⟩
      · rw [hi] at hok
        have q3 : dSort [eD es] = some (.list (so es), true) := (h es hes).so
        have q4 := hne es hes
        cases hz : ne es with
        | true =>
          rw [hz] at hok q4
          refine wp_of (y := (Out.rt (.bool false) false, ([some (.tuple QT, .sh), some (eD es, .sh), jk x2, none] : En))) ?_ (.inr ⟨rfl, by rw [hok]; rfl⟩)
          rw [seq_nx ei]
          generalize eD es = S1 at *
          generalize eD e0 = S0 at *
          simp [q3, q4, s0, e0d]
        | false =>
          rw [hz] at hok q4
          refine wp_of (y := (Out.nx, ([some (.tuple QT, .sh), some (eD es, .sh), jk x2, none] : En))) ?_ ⟨rest, some (eD es, false), x2, fun x hx => hin x (List.mem_cons_of_mem _ hx), rfl, by rw [hok]; rfl, rfl⟩
          rw [seq_nx ei]
          generalize eD es = S1 at *
          generalize eD e0 = S0 at *
          simp [q3, q4, s0, e0d]
      · rw [hi] at hok
        refine wp_of (y := (Out.rt (.bool false) false, en)) ?_ (.inr ⟨rfl, by rw [hok]; rfl⟩)
        rw [seq_rt ei]
  · rintro en ⟨rest, x1, x2, hin, hds, hok, rfl⟩
    cases rest with
    | nil => exact .inl ⟨rfl, hok⟩
    | cons es rest => cases hds
  · rintro ⟨o, en⟩ (⟨rfl, e⟩ | ⟨rfl, e⟩)
    · rw [e]
      refine later_i ?_
      exact ⟨_, rfl, _, rfl, rfl⟩
    · rw [e]
      exact ⟨_, rfl, rfl⟩
end Hd
namespace Hd
open PySem PySem.Spec L2 Fx
def cn : D → Bool
  | .str x => decide (x = nm 0) || decide (x = nm 1) || decide (x = nm 2) || decide (x = nm 3)
  | _ => false
def cm : D → Bool
  | .int _ => true
  | _ => false
def so (es : Es) : List D := srtD (es.map (·.1))
theorem cn_nm {i : Nat} (h : i < 4) : cn (.str (nm i)) = true := by
  match i, h with
  | 0, _ => simp [cn]
  | 1, _ => simp [cn]
  | 2, _ => simp [cn]
  | 3, _ => simp [cn]
def Vl (d : D) : Prop := (∃ z : Int, d = .int z) ∨ (∃ b : Bool, d = .bool b) ∨ ∃ x : Str, d = .str x
theorem nb_ok {d : D} (h : Vl d) : F_is_number [d] = some (.bool (cm d), false) := by
  rcases h with ⟨z, rfl⟩ | ⟨b, rfl⟩ | ⟨x, rfl⟩
  · exact num_i z
  · exact num_b b
  · exact num_s x
theorem dSort_es {es : Es} (ks : List Key) (e : es.map (·.1) = ks.map kD) (h : KO ks) (hl : ks.length ≤ 1000) : dSort [.dict es] = some (.list (so es), true) := by
  show (if sortOk (es.map (·.1)) = true ∧ layOk (es.map (·.1)) = true then some (PyData.list (srtD (es.map (·.1))), true) else none) = _
  rw [if_pos]
  · rfl
  · rw [e]
    exact ⟨sortOk_keys h (by rw [sl_ok]; omega), List.all_eq_true.mpr fun d hd => by
      obtain ⟨k, hk, rfl⟩ := List.mem_map.mp hd
      exact (h.sh k hk).c⟩
theorem dSort_ls {ds : List D} (ks : List Key) (e : ds = ks.map kD) (h : KO ks) (hl : ks.length ≤ 1000) : dSort [.list ds] = some (.list (srtD ds), true) := by
  show (if sortOk ds = true ∧ layOk ds = true then some (PyData.list (srtD ds), true) else none) = _
  rw [if_pos]
  rw [e]
  exact ⟨sortOk_keys h (by rw [sl_ok]; omega), List.all_eq_true.mpr fun d hd => by
    obtain ⟨k, hk, rfl⟩ := List.mem_map.mp hd
    exact (h.sh k hk).c⟩
theorem ko_nk (ks : List Nat) : KO (ks.map nk) := .inr fun k hk => by
  obtain ⟨i, _, rfl⟩ := List.mem_map.mp hk
  exact ⟨_, rfl, nm_ok i⟩
theorem keys_dN (g : Nat → D) (ks : List Nat) : (dN g ks).map (·.1) = (ks.map nk).map kD := by
  unfold dN
  rw [List.map_map, List.map_map]
  rfl
theorem ent_dN {g : Nat → D} {ks : List Nat} (hb : B4 ks) (hg : ∀ i ∈ ks, Vl (g i)) (hl : ks.length ≤ 1000) : Ent cn cm so (dN g ks) := by
  have hp : ∀ p ∈ dN g ks, ∃ i ∈ ks, p = (.str (nm i), g i) := fun p hp => by
    obtain ⟨i, hi, rfl⟩ := List.mem_map.mp hp
    exact ⟨i, hi, rfl⟩
  refine ⟨fun p h => ?_, fun p h => ?_, fun p h => ?_, fun p h hc S0 S1 => ?_, fun p h hc S0 S1 => ?_, ?_, by rw [dN_len]; exact hl⟩
  · obtain ⟨i, hi, rfl⟩ := hp p h
    have := dgetN g hb (hb i hi)
    rw [if_pos hi] at this
    simp [this]
  · obtain ⟨i, hi, rfl⟩ := hp p h
    rw [cn_nm (hb i hi)]
    exact isn_nm (hb i hi)
  · obtain ⟨i, hi, rfl⟩ := hp p h
    exact nb_ok (hg i hi)
  · obtain ⟨i, hi, rfl⟩ := hp p h
    exact ln_nm (hb i hi) S0 S1 none
  · obtain ⟨i, hi, rfl⟩ := hp p h
    rw [cn_nm (hb i hi)] at hc
    cases hc
  · exact dSort_es (ks.map nk) (keys_dN g ks) (ko_nk ks) (by rw [List.length_map]; exact hl)
theorem ent_A : Ent cn cm so [(.str (Str.ofString "A"), .int 1)] := by
  have c0 : cn (.str (Str.ofString "A")) = false := by decide +kernel
  refine ⟨fun p h => ?_, fun p h => ?_, fun p h => ?_, fun p h hc S0 S1 => ?_, fun p h hc S0 S1 => ?_, ?_, by simp⟩
  · rw [List.mem_singleton.mp h]; kernel_rfl
  · rw [List.mem_singleton.mp h]
    show _ = some (PyData.bool (cn (.str (Str.ofString "A"))), false)
    rw [c0]; exact isn_A
  · rw [List.mem_singleton.mp h]; exact num_i 1
  · rw [List.mem_singleton.mp h] at hc
    have hc : cn (.str (Str.ofString "A")) = true := hc
    rw [c0] at hc; cases hc
  · rw [List.mem_singleton.mp h]; exact ln_A S0 S1
  · exact dSort_es [.inr (Str.ofString "A")] rfl (.inr fun k hk => by rw [List.mem_singleton.mp hk]; exact ⟨_, rfl, ofS_ok _⟩) (by simp)
theorem ent_0 : Ent cn cm so [(.str (Str.ofString ""), .int 0)] := by
  have c0 : cn (.str (Str.ofString "")) = false := by decide +kernel
  refine ⟨fun p h => ?_, fun p h => ?_, fun p h => ?_, fun p h hc S0 S1 => ?_, fun p h hc S0 S1 => ?_, ?_, by simp⟩
  · rw [List.mem_singleton.mp h]; kernel_rfl
  · rw [List.mem_singleton.mp h]
    show _ = some (PyData.bool (cn (.str (Str.ofString ""))), false)
    rw [c0]; exact isn_0
  · rw [List.mem_singleton.mp h]; exact num_i 0
  · rw [List.mem_singleton.mp h] at hc
    have hc : cn (.str (Str.ofString "")) = true := hc
    rw [c0] at hc; cases hc
  · rw [List.mem_singleton.mp h]; exact ln_0 S0 S1
  · exact dSort_es [.inr (Str.ofString "")] rfl (.inr fun k hk => by rw [List.mem_singleton.mp hk]; exact ⟨_, rfl, ofS_ok _⟩) (by simp)
theorem ent_1 : Ent cn cm so [(.int 1, .int 1)] := by
  refine ⟨fun p h => ?_, fun p h => ?_, fun p h => ?_, fun p h hc S0 S1 => ?_, fun p h hc S0 S1 => ?_, ?_, by simp⟩
  · rw [List.mem_singleton.mp h]; kernel_rfl
  · rw [List.mem_singleton.mp h]; exact isn_1
  · rw [List.mem_singleton.mp h]; exact num_i 1
  · rw [List.mem_singleton.mp h] at hc
    cases hc
  · rw [List.mem_singleton.mp h]; exact ln_1 S0 S1
  · exact dSort_es [.inl 1] rfl (.inl fun k hk => by rw [List.mem_singleton.mp hk]; exact ⟨_, rfl⟩) (by simp)
/-! ### values that both tell alike -/
def VG (v : D) : Prop := ∃ b : Bool, F_are_samples [v] = some (.bool b, false) ∧ F__law_are [v] = some (.bool b, false)
theorem vg_of {T : List Es} (hT : T ≠ []) (hl : T.length ≤ 1000) (h : ∀ es ∈ T, Ent cn cm so es) (hk : ∀ es ∈ T, ∃ ks : List Key, es.map (·.1) = ks.map kD ∧ KO ks ∧ ks.length ≤ 1000) (hs : ∀ p ∈ T.headD [], ∃ x, p.1 = .str x) : VG (.tuple (T.map eD)) := by
  obtain ⟨e0, r0, rfl⟩ : ∃ e r, T = e :: r := by
    cases T with
    | nil => exact absurd rfl hT
    | cons e r => exact ⟨e, r, rfl⟩
  have sh : ∀ es ∈ e0 :: r0, Sh 1 (.list (so es)) := fun es hes => by
    obtain ⟨ks, e, ko, _⟩ := hk es hes
    refine Sh.lst (k := 0) fun d hd => ?_
    have hd : d ∈ es.map (·.1) := (List.mergeSort_perm _ _).mem_iff.mp hd
    rw [e] at hd
    obtain ⟨k, hk, rfl⟩ := List.mem_map.mp hd
    exact ko.sh k hk
  have hne : ∀ es ∈ e0 :: r0, dNe (.list (so es)) (.list (so e0)) = some (.bool (!PyData.eqv (.list (so es)) (.list (so e0))), false) := fun es hes => dNe_of (sh es hes) (sh e0 (List.mem_cons_self ..)) (by omega) (by omega)
  obtain ⟨ks, ke, ko, kl⟩ := hk e0 (List.mem_cons_self ..)
  have hid : e0.map (fun p => id p.1) = e0.map (·.1) := rfl
  refine ⟨_, are_ok (cn := cn) (cm := cm) (so := so) (ne := fun es => !PyData.eqv (.list (so es)) (.list (so e0))) hT hl h id (fun p hp => ?_) (dSort_ls ks ke ko kl) hne, lare_ok hT hl h hne⟩
  obtain ⟨x, e⟩ := hs p hp
  rw [e]
  rfl
end Hd
namespace Hd
open PySem PySem.Spec L2 Fx
def ES (m : Nat) (f : Sm) : Es := dN (fun i => .int (f i)) (rg m).reverse
structure EK (es : Es) : Prop where
  en : Ent cn cm so es
  ks : ∃ ks : List Key, es.map (·.1) = ks.map kD ∧ KO ks ∧ ks.length ≤ 1000
  tx : ∀ p ∈ es, ∃ x, p.1 = .str x
theorem ek_dN {g : Nat → D} {ks : List Nat} (hb : B4 ks) (hg : ∀ i ∈ ks, Vl (g i)) (hl : ks.length ≤ 1000) : EK (dN g ks) := ⟨ent_dN hb hg hl, ⟨ks.map nk, keys_dN g ks, ko_nk ks, by rw [List.length_map]; exact hl⟩, fun p hp => by
  obtain ⟨i, _, rfl⟩ := List.mem_map.mp hp
  exact ⟨_, rfl⟩⟩
theorem vg_ek {T : List Es} (hT : T ≠ []) (hl : T.length ≤ 1000) (h : ∀ es ∈ T, EK es) : VG (.tuple (T.map eD)) := vg_of hT hl (fun es hes => (h es hes).en) (fun es hes => (h es hes).ks) fun p hp => by
  obtain ⟨e0, r0, rfl⟩ : ∃ e r, T = e :: r := by
    cases T with
    | nil => exact absurd rfl hT
    | cons e r => exact ⟨e, r, rfl⟩
  exact (h e0 (List.mem_cons_self ..)).tx p hp
theorem ek_ES {m : Nat} (hm : m ≤ 4) (f : Sm) : EK (ES m f) := ek_dN (rev_b4 hm) (fun i _ => .inl ⟨_, rfl⟩) (by rw [List.length_reverse, rg_len]; omega)
theorem vg_L {m : Nat} (hm : m ≤ 4) {L : List Sm} (h1 : L ≠ []) (hl : L.length ≤ 5) (T : List Es) (hT : T.length ≤ 5) (h : ∀ es ∈ T, EK es) : VG (.tuple (L.map (eT m) ++ T.map eD)) := by
  have e : L.map (eT m) ++ T.map eD = (L.map (ES m) ++ T).map eD := by
    rw [List.map_append, List.map_map]
    congr 1
    exact List.map_congr_left fun f _ => eT_dN m f
  rw [e]
  refine vg_ek (fun z => h1 ?_) (by rw [List.length_append, List.length_map]; omega) fun es hes => ?_
  · exact List.map_eq_nil_iff.mp (List.append_eq_nil_iff.mp z).1
  · rcases List.mem_append.mp hes with hes | hes
    · obtain ⟨f, _, rfl⟩ := List.mem_map.mp hes
      exact ek_ES hm f
    · exact h es hes
theorem vg_A : VG (.tuple [.dict [(.str (Str.ofString "A"), .int 1)]]) := vg_ek (T := [[(.str (Str.ofString "A"), .int 1)]]) (by simp) (by simp) fun es hes => by
  rw [List.mem_singleton.mp hes]
  exact ⟨ent_A, ⟨[.inr (Str.ofString "A")], rfl, .inr fun k hk => by rw [List.mem_singleton.mp hk]; exact ⟨_, rfl, ofS_ok _⟩, by simp⟩, fun p hp => by rw [List.mem_singleton.mp hp]; exact ⟨_, rfl⟩⟩
theorem vg_0 : VG (.tuple [.dict [(.str (Str.ofString ""), .int 0)]]) := vg_ek (T := [[(.str (Str.ofString ""), .int 0)]]) (by simp) (by simp) fun es hes => by
  rw [List.mem_singleton.mp hes]
  exact ⟨ent_0, ⟨[.inr (Str.ofString "")], rfl, .inr fun k hk => by rw [List.mem_singleton.mp hk]; exact ⟨_, rfl, ofS_ok _⟩, by simp⟩, fun p hp => by rw [List.mem_singleton.mp hp]; exact ⟨_, rfl⟩⟩
theorem vg_a1 : VG (.tuple [.dict [(.str (Str.ofString "a"), .str (Str.ofString "1"))]]) := vg_ek (T := [dN (fun _ => .str (Str.ofString "1")) [0]]) (by simp) (by simp) fun es hes => by
  rw [List.mem_singleton.mp hes]
  exact ek_dN (fun i hi => by rw [List.mem_singleton.mp hi]; omega) (fun i _ => .inr (.inr ⟨_, rfl⟩)) (by simp)
theorem vg_e : VG (.tuple [.dict []]) := vg_ek (T := [[]]) (by simp) (by simp) fun es hes => by
  rw [List.mem_singleton.mp hes]
  exact ek_dN (g := fun _ => .none) (ks := []) (fun i hi => by cases hi) (fun i hi => by cases hi) (by simp)
def s1 : Str := toString (1 : Int)
theorem s1_ok : PyData.strOk s1 = true := by decide +kernel
theorem vg_1 : VG (.tuple [.dict [(.int 1, .int 1)]]) := by
  have sh1 : Sh 1 (.list (so [(.int 1, .int 1)])) := Sh.lst (k := 0) fun d hd => by
    have hd : d ∈ [(PyData.int 1)] := (List.mergeSort_perm _ _).mem_iff.mp hd
    rw [List.mem_singleton.mp hd]
    exact Sh.int 1
  have sh2 : Sh 1 (.list (srtD [.str s1])) := Sh.lst (k := 0) fun d hd => by
    have hd : d ∈ [(PyData.str s1)] := (List.mergeSort_perm _ _).mem_iff.mp hd
    rw [List.mem_singleton.mp hd]
    exact Sh.str _ s1_ok
  have o0 : ∀ ne : Es → Bool, okT cn cm ne [[(.int 1, .int 1)]] = false := fun ne => rfl
  refine ⟨false, ?_, ?_⟩
  · rw [← o0 fun es => !PyData.eqv (.list (so [(.int 1, .int 1)])) (.list (srtD [.str s1]))]
    refine are_ok (so := so) (nn := srtD [.str s1]) (T := [[(.int 1, .int 1)]]) (by simp) (by simp) (fun es hes => by rw [List.mem_singleton.mp hes]; exact ent_1) (fun _ => .str s1) (fun p hp => by
      rw [List.mem_singleton.mp hp]
      kernel_rfl) (dSort_ls [.inr s1] rfl (.inr fun k hk => by rw [List.mem_singleton.mp hk]; exact ⟨_, rfl, s1_ok⟩) (by simp)) fun es hes => ?_
    rw [List.mem_singleton.mp hes]
    exact dNe_of sh1 sh2 (by omega) (by omega)
  · rw [← o0 fun es => !PyData.eqv (.list (so [(.int 1, .int 1)])) (.list (so [(.int 1, .int 1)]))]
    refine lare_ok (so := so) (T := [[(.int 1, .int 1)]]) (by simp) (by simp) (fun es hes => by rw [List.mem_singleton.mp hes]; exact ent_1) fun es hes => ?_
    rw [List.mem_singleton.mp hes]
    exact dNe_of sh1 sh1 (by omega) (by omega)
theorem vg_no {v : D} (h : kitB (tyD v) "tuple" = some false) : VG v := by
  refine ⟨false, ?_, ?_⟩
  · refine wp_val ?_
    show Wp (mk0 4 b_are_samples _) _
    rw [mk0_e, wp_bind]
    show Wp (b_are_samples [some (v, .sh), none, none, none]) _
    unfold b_are_samples
    rw [wp_sSeq]
    simp [h]
  · refine wp_val ?_
    show Wp (mk0 4 b__law_are _) _
    rw [mk0_e, wp_bind]
    show Wp (b__law_are [some (v, .sh), none, none, none]) _
    unfold b__law_are
    rw [wp_sSeq]
    simp [h]
theorem vg_nil : VG (.tuple []) := by
  have e : dEqT (.tuple []) (.tuple []) = some (.bool true, false) := rfl
  refine ⟨false, ?_, ?_⟩
  · refine wp_val ?_
    show Wp (mk0 4 b_are_samples _) _
    rw [mk0_e, wp_bind]
    show Wp (b_are_samples [some (.tuple [], .sh), none, none, none]) _
    unfold b_are_samples
    rw [wp_sSeq]
    simp [e]
  · refine wp_val ?_
    show Wp (mk0 4 b__law_are _) _
    rw [mk0_e, wp_bind]
    show Wp (b__law_are [some (.tuple [], .sh), none, none, none]) _
    unfold b__law_are
    rw [wp_sSeq]
    simp [e]
theorem says_ok (b : Bool) : F__law_says [.bool b, .bool b] = some (.bool true, false) := by
  have e := dEq_b b b
  simp at e
  simp [F__law_says, b__law_says, e]
end Hd
namespace Hd
open PySem PySem.Spec L2 Fx

def TO (m : Nat) (L : List Sm) : List (D × D) := dN (fun i => .list ((inL L i).map .int)) (rg m)
theorem rg_b4 {m : Nat} (hm : m ≤ 4) : B4 (rg m) := fun j hj => Nat.lt_of_lt_of_le (rg_lt hj) hm
theorem to_get {m : Nat} (hm : m ≤ 4) (L : List Sm) {i : Nat} (hi : i < m) : Fx.dictGet (TO m L) (.inr (nm i)) = some (.list ((inL L i).map .int)) := by
  have := dgetN (fun i => .list ((inL L i).map .int)) (rg_b4 hm) (i := i) (by omega)
  rw [if_pos (show i ∈ rg m from List.mem_range.mpr hi)] at this
  exact this
theorem inL_len (L : List Sm) (i : Nat) : (inL L i).length = L.length := List.length_map ..
theorem t1 {dr : List Int} (n : Nat) (sc : D) {m : Nat} {L : List Sm} (h : GL m L) (x2 x4 x5 x6 x7 x8 x9 x10 x11 x12 x13 x14 x15 x16 x17 x18 x19 x20 x21 : Option (D × Bool)) : sSet 4 (fN (aCons (toO (f2 (fSlot 3) (svO (fC (.int 0))) dIxA)) (aNil)) dSort) [some (sc, .sh), some (eW dr n, .own), jk x2, some (eL m L, .sh), jk x4, jk x5, jk x6, jk x7, jk x8, jk x9, jk x10, jk x11, jk x12, jk x13, jk x14, jk x15, jk x16, jk x17, jk x18, jk x19, jk x20, jk x21] = some (.nx, [some (sc, .sh), some (eW dr n, .own), jk x2, some (eL m L, .sh), some (.list (NM m), .own), jk x5, jk x6, jk x7, jk x8, jk x9, jk x10, jk x11, jk x12, jk x13, jk x14, jk x15, jk x16, jk x17, jk x18, jk x19, jk x20, jk x21]) := by
  have e0 := eL_0 h
  have es := sort_NM h
  generalize eL m L = S1 at *
  generalize eT m (hd0 L) = S2 at *
  simp [e0, es]
theorem t2 {dr : List Int} (n : Nat) (sc : D) {m : Nat} {L : List Sm} (h : GL m L) (x2 x5 x6 x7 x8 x9 x10 x11 x12 x13 x14 x15 x16 x17 x18 x19 x20 x21 : Option (D × Bool)) : sSet 5 (fN (aCons (toO (fLc [6] (itV (fName 4)) (gN 6) (tTrue) (fTup (lCons (fName 6) (lCons (toV (fLc [7] (itV (fName 3)) (gN 7) (tTrue) (toV (f2 (fSlot 7) (fSlot 6) dIxA)))) (lNil)))))) (aNil)) dDict) [some (sc, .sh), some (eW dr n, .own), jk x2, some (eL m L, .sh), some (.list (NM m), .own), jk x5, jk x6, jk x7, jk x8, jk x9, jk x10, jk x11, jk x12, jk x13, jk x14, jk x15, jk x16, jk x17, jk x18, jk x19, jk x20, jk x21] = some (.nx, [some (sc, .sh), some (eW dr n, .own), jk x2, some (eL m L, .sh), some (.list (NM m), .sh), some (.dict (TO m L), .own), jk x6, jk x7, jk x8, jk x9, jk x10, jk x11, jk x12, jk x13, jk x14, jk x15, jk x16, jk x17, jk x18, jk x19, jk x20, jk x21]) := by
  have hm := h.m4
  have hl := h.l5
  have dd := dDict_names (fun i => .list ((inL L i).map .int)) (rg_nd' m) (rg_b4 hm)
  have ci : ∀ i, i < m → fLc [7] (itV (fName 3)) (gN 7) (tTrue) (toV (f2 (fSlot 7) (fSlot 6) dIxA)) [some (sc, .sh), some (eW dr n, .own), jk x2, some (eL m L, .sh), some (.list (NM m), .sh), jk x5, some (.str (nm i), .sh), jk x7, jk x8, jk x9, jk x10, jk x11, jk x12, jk x13, jk x14, jk x15, jk x16, jk x17, jk x18, jk x19, jk x20, jk x21] = some (.list ((inL L i).map .int), true, [some (sc, .sh), some (eW dr n, .own), jk x2, some (eL m L, .sh), some (.list (NM m), .sh), jk x5, some (.str (nm i), .sh), jk x7, jk x8, jk x9, jk x10, jk x11, jk x12, jk x13, jk x14, jk x15, jk x16, jk x17, jk x18, jk x19, jk x20, jk x21]) := fun i hi => by
    refine (fLc_typ (eT m) L (fun _ => true) (fun f => .int (f i)) (en1 := [some (sc, .sh), some (eW dr n, .own), jk x2, some (eL m L, .sh), some (.list (NM m), .sh), jk x5, some (.str (nm i), .sh), jk x7, jk x8, jk x9, jk x10, jk x11, jk x12, jk x13, jk x14, jk x15, jk x16, jk x17, jk x18, jk x19, jk x20, jk x21]) ?_ rfl rfl (by rw [sl_ok]; omega) (fun f hf => ?_)).trans (by rw [filt_true]; unfold inL; rw [List.map_map]; rfl)
    · rw [e_itV]
      simp [eL]
    · have h1 := ix_e hm f hi
      generalize eT m f = S1 at *
      generalize eL m L = S2 at *
      refine ⟨[some (sc, .sh), some (eW dr n, .own), jk x2, some (S2, .sh), some (.list (NM m), .sh), jk x5, some (.str (nm i), .sh), some (S1, .sh), jk x8, jk x9, jk x10, jk x11, jk x12, jk x13, jk x14, jk x15, jk x16, jk x17, jk x18, jk x19, jk x20, jk x21], ?_, ?_, fun _ => ?_, rfl⟩
      · simp [wipeE]
      · simp
      · simp [h1]
  have lc : fLc [6] (itV (fName 4)) (gN 6) (tTrue) (fTup (lCons (fName 6) (lCons (toV (fLc [7] (itV (fName 3)) (gN 7) (tTrue) (toV (f2 (fSlot 7) (fSlot 6) dIxA)))) (lNil)))) [some (sc, .sh), some (eW dr n, .own), jk x2, some (eL m L, .sh), some (.list (NM m), .own), jk x5, jk x6, jk x7, jk x8, jk x9, jk x10, jk x11, jk x12, jk x13, jk x14, jk x15, jk x16, jk x17, jk x18, jk x19, jk x20, jk x21] = some (.list ((rg m).map fun i => PyData.tuple [.str (nm i), .list ((inL L i).map .int)]), true, [some (sc, .sh), some (eW dr n, .own), jk x2, some (eL m L, .sh), some (.list (NM m), .sh), jk x5, jk x6, jk x7, jk x8, jk x9, jk x10, jk x11, jk x12, jk x13, jk x14, jk x15, jk x16, jk x17, jk x18, jk x19, jk x20, jk x21]) := by
    refine (fLc_typ (fun i => .str (nm i)) (rg m) (fun _ => true) (fun i => PyData.tuple [.str (nm i), .list ((inL L i).map .int)]) (en1 := [some (sc, .sh), some (eW dr n, .own), jk x2, some (eL m L, .sh), some (.list (NM m), .sh), jk x5, jk x6, jk x7, jk x8, jk x9, jk x10, jk x11, jk x12, jk x13, jk x14, jk x15, jk x16, jk x17, jk x18, jk x19, jk x20, jk x21]) ?_ rfl rfl (by rw [sl_ok, rg_len]; omega) (fun i hi => ?_)).trans (by rw [filt_true]; rfl)
    · rw [e_itV]
      simp [NM]
    · have h1 := ci i (rg_lt hi)
      generalize eL m L = S2 at *
      refine ⟨[some (sc, .sh), some (eW dr n, .own), jk x2, some (S2, .sh), some (.list (NM m), .sh), jk x5, some (.str (nm i), .sh), jk x7, jk x8, jk x9, jk x10, jk x11, jk x12, jk x13, jk x14, jk x15, jk x16, jk x17, jk x18, jk x19, jk x20, jk x21], ?_, ?_, fun _ => ?_, rfl⟩
      · simp [wipeE]
      · simp
      · simp [h1, -List.map_map]
  unfold TO
  generalize eL m L = S2 at *
  generalize dN (fun i => .list ((inL L i).map .int)) (rg m) = DN at *
  simp [lc, dd, -List.map_map]
theorem stl_iff {m : Nat} {L : List Sm} (h : GL m L) (i : Nat) : decide (((dedK (kI (inL L i))).length : Int) = 1) = (L.all fun f => decide (f i = hd0 L i)) := by
  obtain ⟨f, r, rfl, e⟩ := h.cons
  rw [e, Bool.eq_iff_iff, decide_eq_true_eq, List.all_eq_true]
  have hd := ded_one (i := f i) (is := inL r i)
  have e2 : inL (f :: r) i = f i :: inL r i := rfl
  rw [e2]
  constructor
  · intro z g hg
    have z : (dedK (kI (f i :: inL r i))).length = 1 := by omega
    rcases List.mem_cons.mp hg with rfl | hg
    · simp
    · exact decide_eq_true (hd.mp z (g i) (List.mem_map.mpr ⟨g, hg, rfl⟩))
  · intro z
    have : (dedK (kI (f i :: inL r i))).length = 1 := hd.mpr fun j hj => by
      obtain ⟨g, hg, rfl⟩ := List.mem_map.mp hj
      exact of_decide_eq_true (z g (List.mem_cons_of_mem _ hg))
    omega
theorem t3 {dr : List Int} (n : Nat) (sc : D) {m : Nat} {L : List Sm} (h : GL m L) (x2 x6 x7 x8 x9 x10 x11 x12 x13 x14 x15 x16 x17 x18 x19 x20 x21 : Option (D × Bool)) : sSet 8 (fLc [6] (itV (fName 4)) (gN 6) (tB1 (f2 (toO (fN (aCons (toO (f2 (fSlot 5) (fSlot 6) dIxA)) (aNil)) dLenSet)) (svO (fC (.int 1))) (dEq))) (fName 6)) [some (sc, .sh), some (eW dr n, .own), jk x2, some (eL m L, .sh), some (.list (NM m), .sh), some (.dict (TO m L), .own), jk x6, jk x7, jk x8, jk x9, jk x10, jk x11, jk x12, jk x13, jk x14, jk x15, jk x16, jk x17, jk x18, jk x19, jk x20, jk x21] = some (.nx, [some (sc, .sh), some (eW dr n, .own), jk x2, some (eL m L, .sh), some (.list (NM m), .sh), some (.dict (TO m L), .own), jk x6, jk x7, some (.list ((stl m L).map fun i => .str (nm i)), .own), jk x9, jk x10, jk x11, jk x12, jk x13, jk x14, jk x15, jk x16, jk x17, jk x18, jk x19, jk x20, jk x21]) := by
  have hm := h.m4
  have hl := h.l5
  have lc : fLc [6] (itV (fName 4)) (gN 6) (tB1 (f2 (toO (fN (aCons (toO (f2 (fSlot 5) (fSlot 6) dIxA)) (aNil)) dLenSet)) (svO (fC (.int 1))) (dEq))) (fName 6) [some (sc, .sh), some (eW dr n, .own), jk x2, some (eL m L, .sh), some (.list (NM m), .sh), some (.dict (TO m L), .own), jk x6, jk x7, jk x8, jk x9, jk x10, jk x11, jk x12, jk x13, jk x14, jk x15, jk x16, jk x17, jk x18, jk x19, jk x20, jk x21] = some (.list ((stl m L).map fun i => .str (nm i)), true, [some (sc, .sh), some (eW dr n, .own), jk x2, some (eL m L, .sh), some (.list (NM m), .sh), some (.dict (TO m L), .own), jk x6, jk x7, jk x8, jk x9, jk x10, jk x11, jk x12, jk x13, jk x14, jk x15, jk x16, jk x17, jk x18, jk x19, jk x20, jk x21]) := by
    refine (fLc_typ (fun i => .str (nm i)) (rg m) (fun i => L.all fun f => decide (f i = hd0 L i)) (fun i => .str (nm i)) (en1 := [some (sc, .sh), some (eW dr n, .own), jk x2, some (eL m L, .sh), some (.list (NM m), .sh), some (.dict (TO m L), .own), jk x6, jk x7, jk x8, jk x9, jk x10, jk x11, jk x12, jk x13, jk x14, jk x15, jk x16, jk x17, jk x18, jk x19, jk x20, jk x21]) ?_ rfl rfl (by rw [sl_ok, rg_len]; omega) (fun i hi => ?_)).trans rfl
    · rw [e_itV]
      simp [NM]
    · have h1 := to_get hm L (rg_lt hi)
      have h2 := lenSet_ints (is := inL L i) (by rw [inL_len]; omega)
      have h3 := stl_iff h i
      rw [← h3]
      generalize eL m L = S2 at *
      generalize TO m L = DT at *
      generalize (inL L i).map PyData.int = IL at *
      refine ⟨[some (sc, .sh), some (eW dr n, .own), jk x2, some (S2, .sh), some (.list (NM m), .sh), some (.dict (DT), .own), some (.str (nm i), .sh), jk x7, jk x8, jk x9, jk x10, jk x11, jk x12, jk x13, jk x14, jk x15, jk x16, jk x17, jk x18, jk x19, jk x20, jk x21], ?_, ?_, fun _ => ?_, rfl⟩
      · simp [wipeE]
      · simp [h1, h2, dEq_int]
      · simp
  generalize eL m L = S2 at *
  generalize TO m L = DT at *
  simp [lc]
theorem t4 {dr : List Int} (n : Nat) (sc : D) {m : Nat} {L : List Sm} (h : GL m L) (x2 x6 x7 x9 x10 x11 x12 x13 x14 x15 x16 x17 x18 x19 x20 x21 : Option (D × Bool)) : sIf (tNotF (tB1 (fCall 2 (lCons (toV (fCall 1 (lCons (fName 3) (lNil)) F_constants)) (lCons (toV (fN (aCons (toO (fLc [6] (itV (fName 8)) (gN 6) (tTrue) (fTup (lCons (fName 6) (lCons (toV (f2 (toO (f2 (fSlot 5) (fSlot 6) dIxA)) (svO (fC (.int 0))) dIxA)) (lNil)))))) (aNil)) dDict)) (lNil))) F__law_same_dict))) (sRet (ofV (fC (.bool false)))) (sNx) [some (sc, .sh), some (eW dr n, .own), jk x2, some (eL m L, .sh), some (.list (NM m), .sh), some (.dict (TO m L), .own), jk x6, jk x7, some (.list ((stl m L).map fun i => .str (nm i)), .own), jk x9, jk x10, jk x11, jk x12, jk x13, jk x14, jk x15, jk x16, jk x17, jk x18, jk x19, jk x20, jk x21] = some (.nx, [some (sc, .sh), some (eW dr n, .own), jk x2, some (eL m L, .sh), some (.list (NM m), .sh), some (.dict (TO m L), .own), jk x6, jk x7, some (.list ((stl m L).map fun i => .str (nm i)), .sh), jk x9, jk x10, jk x11, jk x12, jk x13, jk x14, jk x15, jk x16, jk x17, jk x18, jk x19, jk x20, jk x21]) := by
  have hm := h.m4
  have hl := h.l5
  have hc := const_ok h
  have hb : B4 (stl m L) := h.b4 _
  have dd := dDict_names (fun i => .int (hd0 L i)) (ks := stl m L) (rg_nd m _) hb
  have hle : (stl m L).length ≤ 4 := Nat.le_trans (List.length_filter_le _ _) (by rw [rg_len]; exact hm)
  have sd := same_dict (g := fun i => .int (hd0 L i)) hb hle (fun i _ => .int _)
  have lc : fLc [6] (itV (fName 8)) (gN 6) (tTrue) (fTup (lCons (fName 6) (lCons (toV (f2 (toO (f2 (fSlot 5) (fSlot 6) dIxA)) (svO (fC (.int 0))) dIxA)) (lNil)))) [some (sc, .sh), some (eW dr n, .own), jk x2, some (eL m L, .sh), some (.list (NM m), .sh), some (.dict (TO m L), .own), jk x6, jk x7, some (.list ((stl m L).map fun i => .str (nm i)), .own), jk x9, jk x10, jk x11, jk x12, jk x13, jk x14, jk x15, jk x16, jk x17, jk x18, jk x19, jk x20, jk x21] = some (.list ((stl m L).map fun i => PyData.tuple [.str (nm i), .int (hd0 L i)]), true, [some (sc, .sh), some (eW dr n, .own), jk x2, some (eL m L, .sh), some (.list (NM m), .sh), some (.dict (TO m L), .own), jk x6, jk x7, some (.list ((stl m L).map fun i => .str (nm i)), .sh), jk x9, jk x10, jk x11, jk x12, jk x13, jk x14, jk x15, jk x16, jk x17, jk x18, jk x19, jk x20, jk x21]) := by
    refine (fLc_typ (fun i => .str (nm i)) (stl m L) (fun _ => true) (fun i => PyData.tuple [.str (nm i), .int (hd0 L i)]) (en1 := [some (sc, .sh), some (eW dr n, .own), jk x2, some (eL m L, .sh), some (.list (NM m), .sh), some (.dict (TO m L), .own), jk x6, jk x7, some (.list ((stl m L).map fun i => .str (nm i)), .sh), jk x9, jk x10, jk x11, jk x12, jk x13, jk x14, jk x15, jk x16, jk x17, jk x18, jk x19, jk x20, jk x21]) ?_ rfl rfl (by rw [sl_ok]; omega) (fun i hi => ?_)).trans (by rw [filt_true]; rfl)
    · rw [e_itV]
      simp
    · have h1 := to_get hm L (rg_lt (List.mem_filter.mp hi).1)
      have h2 : (inL L i).map PyData.int = .int (hd0 L i) :: (inL L.tail i).map .int := by
        obtain ⟨f, r, rfl, e⟩ := h.cons
        rw [e]
        rfl
      rw [h2] at h1
      generalize eL m L = S2 at *
      generalize TO m L = DT at *
      generalize (stl m L).map (fun i => PyData.str (nm i)) = ST8 at *
      refine ⟨[some (sc, .sh), some (eW dr n, .own), jk x2, some (S2, .sh), some (.list (NM m), .sh), some (.dict (DT), .own), some (.str (nm i), .sh), jk x7, some (.list ST8, .sh), jk x9, jk x10, jk x11, jk x12, jk x13, jk x14, jk x15, jk x16, jk x17, jk x18, jk x19, jk x20, jk x21], ?_, ?_, fun _ => ?_, rfl⟩
      · simp [wipeE]
      · simp
      · simp [h1]
  generalize F_constants = A1 at *
  generalize F__law_same_dict = A2 at *
  generalize eL m L = S2 at *
  generalize TO m L = DT at *
  generalize dN (fun i => .int (hd0 L i)) (stl m L) = DN at *
  generalize ((stl m L).map fun i => PyData.tuple [.str (nm i), .int (hd0 L i)]) = PL at *
  generalize (stl m L).map (fun i => PyData.str (nm i)) = ST8 at *
  simp [hc, lc, dd, sd]
end Hd
namespace Hd
open PySem PySem.Spec L2 Fx

theorem t5 {dr : List Int} (n : Nat) (sc : D) {m : Nat} {L : List Sm} (h : GL m L) (x2 x6 x7 x9 x10 x11 x12 x13 x14 x15 x16 x17 x18 x19 x20 x21 : Option (D × Bool)) : sIf (tNotF (tB1 (fCall 2 (lCons (toV (fCall 1 (lCons (fName 3) (lNil)) F_ranges)) (lCons (toV (fN (aCons (toO (fLc [6] (itV (fName 4)) (gN 6) (tTrue) (fTup (lCons (fName 6) (lCons (fTup (lCons (toV (fN (aCons (toO (f2 (fSlot 5) (fSlot 6) dIxA)) (aNil)) (dPick PySem.W.minD))) (lCons (toV (fN (aCons (toO (f2 (fSlot 5) (fSlot 6) dIxA)) (aNil)) (dPick PySem.W.maxD))) (lNil)))) (lNil)))))) (aNil)) dDict)) (lNil))) F__law_same_dict))) (sRet (ofV (fC (.bool false)))) (sNx) [some (sc, .sh), some (eW dr n, .own), jk x2, some (eL m L, .sh), some (.list (NM m), .sh), some (.dict (TO m L), .own), jk x6, jk x7, some (.list ((stl m L).map fun i => .str (nm i)), .sh), jk x9, jk x10, jk x11, jk x12, jk x13, jk x14, jk x15, jk x16, jk x17, jk x18, jk x19, jk x20, jk x21] = some (.nx, [some (sc, .sh), some (eW dr n, .own), jk x2, some (eL m L, .sh), some (.list (NM m), .sh), some (.dict (TO m L), .own), jk x6, jk x7, some (.list ((stl m L).map fun i => .str (nm i)), .sh), jk x9, jk x10, jk x11, jk x12, jk x13, jk x14, jk x15, jk x16, jk x17, jk x18, jk x19, jk x20, jk x21]) := by
  have hm := h.m4
  have hc := ranges_ok h
  have dd := dDict_names (gR L) (rg_nd' m) (rg_b4 hm)
  have sd := same_dict (g := gR L) (rg_b4 hm) (by rw [rg_len]; exact hm) (fun i _ => .tup (fun d hd => by
    simp only [List.mem_cons, List.not_mem_nil, or_false] at hd
    rcases hd with rfl | rfl
    · exact .int _
    · exact .int _) (by simp))
  have lc : fLc [6] (itV (fName 4)) (gN 6) (tTrue) (fTup (lCons (fName 6) (lCons (fTup (lCons (toV (fN (aCons (toO (f2 (fSlot 5) (fSlot 6) dIxA)) (aNil)) (dPick PySem.W.minD))) (lCons (toV (fN (aCons (toO (f2 (fSlot 5) (fSlot 6) dIxA)) (aNil)) (dPick PySem.W.maxD))) (lNil)))) (lNil)))) [some (sc, .sh), some (eW dr n, .own), jk x2, some (eL m L, .sh), some (.list (NM m), .sh), some (.dict (TO m L), .own), jk x6, jk x7, some (.list ((stl m L).map fun i => .str (nm i)), .sh), jk x9, jk x10, jk x11, jk x12, jk x13, jk x14, jk x15, jk x16, jk x17, jk x18, jk x19, jk x20, jk x21] = some (.list ((rg m).map fun i => PyData.tuple [.str (nm i), gR L i]), true, [some (sc, .sh), some (eW dr n, .own), jk x2, some (eL m L, .sh), some (.list (NM m), .sh), some (.dict (TO m L), .own), jk x6, jk x7, some (.list ((stl m L).map fun i => .str (nm i)), .sh), jk x9, jk x10, jk x11, jk x12, jk x13, jk x14, jk x15, jk x16, jk x17, jk x18, jk x19, jk x20, jk x21]) := by
    refine (fLc_typ (fun i => .str (nm i)) (rg m) (fun _ => true) (fun i => PyData.tuple [.str (nm i), gR L i]) (en1 := [some (sc, .sh), some (eW dr n, .own), jk x2, some (eL m L, .sh), some (.list (NM m), .sh), some (.dict (TO m L), .own), jk x6, jk x7, some (.list ((stl m L).map fun i => .str (nm i)), .sh), jk x9, jk x10, jk x11, jk x12, jk x13, jk x14, jk x15, jk x16, jk x17, jk x18, jk x19, jk x20, jk x21]) ?_ rfl rfl (by rw [sl_ok, rg_len]; omega) (fun i hi => ?_)).trans (by rw [filt_true]; rfl)
    · rw [e_itV]
      simp [NM]
    · have h1 := to_get hm L (rg_lt hi)
      have h2 := min_ints (h.inL i)
      have h3 := max_ints (h.inL i)
      have hg : gR L i = .tuple [.int (mnI (inL L i)), .int (mxI (inL L i))] := rfl
      rw [hg]
      generalize eL m L = S2 at *
      generalize TO m L = DT at *
      generalize (stl m L).map (fun i => PyData.str (nm i)) = ST8 at *
      generalize (inL L i).map PyData.int = IL at *
      refine ⟨[some (sc, .sh), some (eW dr n, .own), jk x2, some (S2, .sh), some (.list (NM m), .sh), some (.dict (DT), .own), some (.str (nm i), .sh), jk x7, some (.list ST8, .sh), jk x9, jk x10, jk x11, jk x12, jk x13, jk x14, jk x15, jk x16, jk x17, jk x18, jk x19, jk x20, jk x21], ?_, ?_, fun _ => ?_, rfl⟩
      · simp [wipeE]
      · simp
      · simp [h1, h2, h3]
  generalize F_ranges = A1 at *
  generalize F__law_same_dict = A2 at *
  generalize eL m L = S2 at *
  generalize TO m L = DT at *
  generalize (stl m L).map (fun i => PyData.str (nm i)) = ST8 at *
  generalize dN (gR L) (rg m) = DN at *
  generalize ((rg m).map fun i => PyData.tuple [.str (nm i), gR L i]) = PL at *
  simp [hc, lc, dd, sd]
theorem nz_iff (L : List Sm) (i : Nat) : (!decide ((0 : Int) ∈ inL L i)) = L.all fun f => !decide (f i = 0) := by
  rw [Bool.eq_iff_iff, List.all_eq_true]
  simp [inL]
theorem t6 {dr : List Int} (n : Nat) (sc : D) {m : Nat} {L : List Sm} (h : GL m L) (x2 x6 x7 x9 x10 x11 x12 x13 x14 x15 x16 x17 x18 x19 x20 x21 : Option (D × Bool)) : sIf (tNotF (tB1 (fCall 2 (lCons (toV (fCall 1 (lCons (fName 3) (lNil)) F_never_zero)) (lCons (toV (fN (aCons (toO (fLc [6] (itV (fName 4)) (gN 6) (tB1 (f2 (svO (fC (.int 0))) (toO (f2 (fSlot 5) (fSlot 6) dIxA)) (dNotIn))) (fName 6))) (aNil)) dTuple)) (lNil))) (F__law_same recN)))) (sRet (ofV (fC (.bool false)))) (sNx) [some (sc, .sh), some (eW dr n, .own), jk x2, some (eL m L, .sh), some (.list (NM m), .sh), some (.dict (TO m L), .own), jk x6, jk x7, some (.list ((stl m L).map fun i => .str (nm i)), .sh), jk x9, jk x10, jk x11, jk x12, jk x13, jk x14, jk x15, jk x16, jk x17, jk x18, jk x19, jk x20, jk x21] = some (.nx, [some (sc, .sh), some (eW dr n, .own), jk x2, some (eL m L, .sh), some (.list (NM m), .sh), some (.dict (TO m L), .own), jk x6, jk x7, some (.list ((stl m L).map fun i => .str (nm i)), .sh), jk x9, jk x10, jk x11, jk x12, jk x13, jk x14, jk x15, jk x16, jk x17, jk x18, jk x19, jk x20, jk x21]) := by
  have hm := h.m4
  have hc := never_ok h
  have sd : F__law_same recN [.tuple (((rg m).filter fun i => L.all fun f => !decide (f i = 0)).map fun i => .str (nm i)), .tuple (((rg m).filter fun i => L.all fun f => !decide (f i = 0)).map fun i => .str (nm i))] = some (.bool true, false) := same_ok (n := 1) (.tup (fun d hd => by
    obtain ⟨i, _, rfl⟩ := List.mem_map.mp hd
    exact .str _ (nm_ok i)) (by
      have := List.length_filter_le (fun i => L.all fun f => !decide (f i = 0)) (rg m)
      rw [rg_len] at this
      rw [List.length_map]; omega)) recN (by decide)
  have lc : fLc [6] (itV (fName 4)) (gN 6) (tB1 (f2 (svO (fC (.int 0))) (toO (f2 (fSlot 5) (fSlot 6) dIxA)) (dNotIn))) (fName 6) [some (sc, .sh), some (eW dr n, .own), jk x2, some (eL m L, .sh), some (.list (NM m), .sh), some (.dict (TO m L), .own), jk x6, jk x7, some (.list ((stl m L).map fun i => .str (nm i)), .sh), jk x9, jk x10, jk x11, jk x12, jk x13, jk x14, jk x15, jk x16, jk x17, jk x18, jk x19, jk x20, jk x21] = some (.list (((rg m).filter fun i => L.all fun f => !decide (f i = 0)).map fun i => .str (nm i)), true, [some (sc, .sh), some (eW dr n, .own), jk x2, some (eL m L, .sh), some (.list (NM m), .sh), some (.dict (TO m L), .own), jk x6, jk x7, some (.list ((stl m L).map fun i => .str (nm i)), .sh), jk x9, jk x10, jk x11, jk x12, jk x13, jk x14, jk x15, jk x16, jk x17, jk x18, jk x19, jk x20, jk x21]) := by
    refine (fLc_typ (fun i => .str (nm i)) (rg m) (fun i => L.all fun f => !decide (f i = 0)) (fun i => .str (nm i)) (en1 := [some (sc, .sh), some (eW dr n, .own), jk x2, some (eL m L, .sh), some (.list (NM m), .sh), some (.dict (TO m L), .own), jk x6, jk x7, some (.list ((stl m L).map fun i => .str (nm i)), .sh), jk x9, jk x10, jk x11, jk x12, jk x13, jk x14, jk x15, jk x16, jk x17, jk x18, jk x19, jk x20, jk x21]) ?_ rfl rfl (by rw [sl_ok, rg_len]; omega) (fun i hi => ?_)).trans rfl
    · rw [e_itV]
      simp [NM]
    · have h1 := to_get hm L (rg_lt hi)
      have h2 := dNotIn_lI 0 (inL L i)
      rw [nz_iff] at h2
      generalize eL m L = S2 at *
      generalize TO m L = DT at *
      generalize (stl m L).map (fun i => PyData.str (nm i)) = ST8 at *
      generalize (inL L i).map PyData.int = IL at *
      generalize (L.all fun f => !decide (f i = 0)) = c at *
      refine ⟨[some (sc, .sh), some (eW dr n, .own), jk x2, some (S2, .sh), some (.list (NM m), .sh), some (.dict (DT), .own), some (.str (nm i), .sh), jk x7, some (.list ST8, .sh), jk x9, jk x10, jk x11, jk x12, jk x13, jk x14, jk x15, jk x16, jk x17, jk x18, jk x19, jk x20, jk x21], ?_, ?_, fun _ => ?_, rfl⟩
      · simp [wipeE]
      · simp [h1, h2]
      · simp
  generalize F_never_zero = A1 at *
  generalize F__law_same recN = A2 at *
  generalize eL m L = S2 at *
  generalize TO m L = DT at *
  generalize (stl m L).map (fun i => PyData.str (nm i)) = ST8 at *
  generalize (((rg m).filter fun i => L.all fun f => !decide (f i = 0)).map fun i => PyData.str (nm i)) = PL at *
  simp [hc, lc, sd]
theorem few_iff (L : List Sm) (most : Int) (i : Nat) : decide (((dedK (kI (inL L i))).length : Int) ≤ most) = cF L most i := by
  unfold cF fv
  rw [sk_ded]
theorem t8 {dr : List Int} (n : Nat) (sc : D) {m : Nat} {L : List Sm} (h : GL m L) {most : Int} (x2 x6 x7 x10 x11 x12 x13 x14 x15 x16 x17 x18 x19 x20 x21 : Option (D × Bool)) : sSet 10 (fLc [6] (itV (fName 4)) (gN 6) (tB1 (f2 (toO (fN (aCons (toO (f2 (fSlot 5) (fSlot 6) dIxA)) (aNil)) dLenSet)) (fSlot 9) (isI iLe))) (fName 6)) [some (sc, .sh), some (eW dr n, .own), jk x2, some (eL m L, .sh), some (.list (NM m), .sh), some (.dict (TO m L), .own), jk x6, jk x7, some (.list ((stl m L).map fun i => .str (nm i)), .sh), some (.int most, .sh), jk x10, jk x11, jk x12, jk x13, jk x14, jk x15, jk x16, jk x17, jk x18, jk x19, jk x20, jk x21] = some (.nx, [some (sc, .sh), some (eW dr n, .own), jk x2, some (eL m L, .sh), some (.list (NM m), .sh), some (.dict (TO m L), .own), jk x6, jk x7, some (.list ((stl m L).map fun i => .str (nm i)), .sh), some (.int most, .sh), some (.list (((rg m).filter (cF L most)).map fun i => .str (nm i)), .own), jk x11, jk x12, jk x13, jk x14, jk x15, jk x16, jk x17, jk x18, jk x19, jk x20, jk x21]) := by
  have hm := h.m4
  have hl := h.l5
  have lc : fLc [6] (itV (fName 4)) (gN 6) (tB1 (f2 (toO (fN (aCons (toO (f2 (fSlot 5) (fSlot 6) dIxA)) (aNil)) dLenSet)) (fSlot 9) (isI iLe))) (fName 6) [some (sc, .sh), some (eW dr n, .own), jk x2, some (eL m L, .sh), some (.list (NM m), .sh), some (.dict (TO m L), .own), jk x6, jk x7, some (.list ((stl m L).map fun i => .str (nm i)), .sh), some (.int most, .sh), jk x10, jk x11, jk x12, jk x13, jk x14, jk x15, jk x16, jk x17, jk x18, jk x19, jk x20, jk x21] = some (.list (((rg m).filter (cF L most)).map fun i => .str (nm i)), true, [some (sc, .sh), some (eW dr n, .own), jk x2, some (eL m L, .sh), some (.list (NM m), .sh), some (.dict (TO m L), .own), jk x6, jk x7, some (.list ((stl m L).map fun i => .str (nm i)), .sh), some (.int most, .sh), jk x10, jk x11, jk x12, jk x13, jk x14, jk x15, jk x16, jk x17, jk x18, jk x19, jk x20, jk x21]) := by
    refine (fLc_typ (fun i => .str (nm i)) (rg m) (cF L most) (fun i => .str (nm i)) (en1 := [some (sc, .sh), some (eW dr n, .own), jk x2, some (eL m L, .sh), some (.list (NM m), .sh), some (.dict (TO m L), .own), jk x6, jk x7, some (.list ((stl m L).map fun i => .str (nm i)), .sh), some (.int most, .sh), jk x10, jk x11, jk x12, jk x13, jk x14, jk x15, jk x16, jk x17, jk x18, jk x19, jk x20, jk x21]) ?_ rfl rfl (by rw [sl_ok, rg_len]; omega) (fun i hi => ?_)).trans rfl
    · rw [e_itV]
      simp [NM]
    · have h1 := to_get hm L (rg_lt hi)
      have h2 := lenSet_ints (is := inL L i) (by rw [inL_len]; omega)
      have h3 := few_iff L most i
      rw [← h3]
      generalize eL m L = S2 at *
      generalize TO m L = DT at *
      generalize (stl m L).map (fun i => PyData.str (nm i)) = ST8 at *
      generalize (inL L i).map PyData.int = IL at *
      refine ⟨[some (sc, .sh), some (eW dr n, .own), jk x2, some (S2, .sh), some (.list (NM m), .sh), some (.dict (DT), .own), some (.str (nm i), .sh), jk x7, some (.list ST8, .sh), some (.int most, .sh), jk x10, jk x11, jk x12, jk x13, jk x14, jk x15, jk x16, jk x17, jk x18, jk x19, jk x20, jk x21], ?_, ?_, fun _ => ?_, rfl⟩
      · simp [wipeE]
      · simp [h1, h2]
      · simp
  generalize eL m L = S2 at *
  generalize TO m L = DT at *
  generalize (stl m L).map (fun i => PyData.str (nm i)) = ST8 at *
  generalize (((rg m).filter (cF L most)).map fun i => PyData.str (nm i)) = ST10 at *
  simp [lc]
theorem t9 {dr : List Int} (n : Nat) (sc : D) {m : Nat} {L : List Sm} (h : GL m L) {most : Int} (x2 x6 x7 x11 x12 x13 x14 x15 x16 x17 x18 x19 x20 x21 : Option (D × Bool)) : sIf (tNotF (tB1 (fCall 2 (lCons (toV (fCall 2 (lCons (fName 3) (lCons (fName 9) (lNil))) F_few_values)) (lCons (toV (fN (aCons (toO (fLc [6] (itV (fName 10)) (gN 6) (tTrue) (fTup (lCons (fName 6) (lCons (toV (fN (aCons (toO (fN (aCons (toO (f2 (fSlot 5) (fSlot 6) dIxA)) (aNil)) dSortSetK)) (aNil)) dTuple)) (lNil)))))) (aNil)) dDict)) (lNil))) F__law_same_dict))) (sRet (ofV (fC (.bool false)))) (sNx) [some (sc, .sh), some (eW dr n, .own), jk x2, some (eL m L, .sh), some (.list (NM m), .sh), some (.dict (TO m L), .own), jk x6, jk x7, some (.list ((stl m L).map fun i => .str (nm i)), .sh), some (.int most, .sh), some (.list (((rg m).filter (cF L most)).map fun i => .str (nm i)), .own), jk x11, jk x12, jk x13, jk x14, jk x15, jk x16, jk x17, jk x18, jk x19, jk x20, jk x21] = some (.nx, [some (sc, .sh), some (eW dr n, .own), jk x2, some (eL m L, .sh), some (.list (NM m), .sh), some (.dict (TO m L), .own), jk x6, jk x7, some (.list ((stl m L).map fun i => .str (nm i)), .sh), some (.int most, .sh), some (.list (((rg m).filter (cF L most)).map fun i => .str (nm i)), .sh), jk x11, jk x12, jk x13, jk x14, jk x15, jk x16, jk x17, jk x18, jk x19, jk x20, jk x21]) := by
  have hm := h.m4
  have hl := h.l5
  have hc := few_ok h most
  have hb : B4 ((rg m).filter (cF L most)) := h.b4 _
  have dd := dDict_names (gF L) (rg_nd m (cF L most)) hb
  have hle : ((rg m).filter (cF L most)).length ≤ 4 := Nat.le_trans (List.length_filter_le _ _) (by rw [rg_len]; exact hm)
  have sd := same_dict (g := gF L) hb hle (fun i _ => .tup (fun d hd => by
    obtain ⟨k, hk, rfl⟩ := List.mem_map.mp hd
    obtain ⟨j, _, rfl⟩ := List.mem_map.mp (sk_mem.mp hk)
    exact .int _) (by
      have := sk_len (kI (inL L i))
      unfold kI at this
      rw [List.length_map, inL_len] at this
      rw [List.length_map]
      unfold fv kI
      omega))
  have lc : fLc [6] (itV (fName 10)) (gN 6) (tTrue) (fTup (lCons (fName 6) (lCons (toV (fN (aCons (toO (fN (aCons (toO (f2 (fSlot 5) (fSlot 6) dIxA)) (aNil)) dSortSetK)) (aNil)) dTuple)) (lNil)))) [some (sc, .sh), some (eW dr n, .own), jk x2, some (eL m L, .sh), some (.list (NM m), .sh), some (.dict (TO m L), .own), jk x6, jk x7, some (.list ((stl m L).map fun i => .str (nm i)), .sh), some (.int most, .sh), some (.list (((rg m).filter (cF L most)).map fun i => .str (nm i)), .own), jk x11, jk x12, jk x13, jk x14, jk x15, jk x16, jk x17, jk x18, jk x19, jk x20, jk x21] = some (.list (((rg m).filter (cF L most)).map fun i => PyData.tuple [.str (nm i), gF L i]), true, [some (sc, .sh), some (eW dr n, .own), jk x2, some (eL m L, .sh), some (.list (NM m), .sh), some (.dict (TO m L), .own), jk x6, jk x7, some (.list ((stl m L).map fun i => .str (nm i)), .sh), some (.int most, .sh), some (.list (((rg m).filter (cF L most)).map fun i => .str (nm i)), .sh), jk x11, jk x12, jk x13, jk x14, jk x15, jk x16, jk x17, jk x18, jk x19, jk x20, jk x21]) := by
    refine (fLc_typ (fun i => .str (nm i)) ((rg m).filter (cF L most)) (fun _ => true) (fun i => PyData.tuple [.str (nm i), gF L i]) (en1 := [some (sc, .sh), some (eW dr n, .own), jk x2, some (eL m L, .sh), some (.list (NM m), .sh), some (.dict (TO m L), .own), jk x6, jk x7, some (.list ((stl m L).map fun i => .str (nm i)), .sh), some (.int most, .sh), some (.list (((rg m).filter (cF L most)).map fun i => .str (nm i)), .sh), jk x11, jk x12, jk x13, jk x14, jk x15, jk x16, jk x17, jk x18, jk x19, jk x20, jk x21]) ?_ rfl rfl (by rw [sl_ok]; omega) (fun i hi => ?_)).trans (by rw [filt_true]; rfl)
    · rw [e_itV]
      simp
    · have h1 := to_get hm L (rg_lt (List.mem_filter.mp hi).1)
      have h2 := ss_ints (is := inL L i) (by rw [inL_len]; omega)
      have hg : gF L i = .tuple ((sk (kI (inL L i))).map kD) := rfl
      rw [hg]
      generalize eL m L = S2 at *
      generalize TO m L = DT at *
      generalize (stl m L).map (fun i => PyData.str (nm i)) = ST8 at *
      generalize ((rg m).filter (cF L most)).map (fun i => PyData.str (nm i)) = ST10 at *
      generalize (inL L i).map PyData.int = IL at *
      generalize (sk (kI (inL L i))).map kD = SK at *
      refine ⟨[some (sc, .sh), some (eW dr n, .own), jk x2, some (S2, .sh), some (.list (NM m), .sh), some (.dict (DT), .own), some (.str (nm i), .sh), jk x7, some (.list ST8, .sh), some (.int most, .sh), some (.list ST10, .sh), jk x11, jk x12, jk x13, jk x14, jk x15, jk x16, jk x17, jk x18, jk x19, jk x20, jk x21], ?_, ?_, fun _ => ?_, rfl⟩
      · simp [wipeE]
      · simp
      · simp [h1, h2]
  generalize F_few_values = A1 at *
  generalize F__law_same_dict = A2 at *
  generalize eL m L = S2 at *
  generalize TO m L = DT at *
  generalize (stl m L).map (fun i => PyData.str (nm i)) = ST8 at *
  generalize dN (gF L) ((rg m).filter (cF L most)) = DN at *
  generalize (((rg m).filter (cF L most)).map fun i => PyData.tuple [.str (nm i), gF L i]) = PL at *
  generalize (((rg m).filter (cF L most)).map fun i => PyData.str (nm i)) = ST10 at *
  simp [hc, lc, dd, sd]
end Hd
namespace Hd
open PySem PySem.Spec L2 Fx

/-! ### the sorted set of gaps -/
theorem sk_ints {is : List Int} (h : is ≠ []) : ∃ (g0 : Int) (r : List Int), (sk (kI is)).map kD = .int g0 :: r.map .int ∧ (∀ g ∈ is, g0 ≤ g) ∧ (∀ x, x ∈ g0 :: r ↔ x ∈ is) ∧ (g0 :: r).Nodup := by
  have hm : ∀ k, k ∈ sk (kI is) ↔ ∃ i ∈ is, k = .inl i := fun k => by
    rw [sk_mem]
    unfold kI
    rw [List.mem_map]
    exact ⟨fun ⟨i, hi, e⟩ => ⟨i, hi, e.symm⟩, fun ⟨i, hi, e⟩ => ⟨i, hi, e.symm⟩⟩
  have hk : ∀ ks : List Key, (∀ k ∈ ks, ∃ i : Int, k = .inl i) → ∃ xs : List Int, ks = xs.map Sum.inl := by
    intro ks
    induction ks with
    | nil => exact fun _ => ⟨[], rfl⟩
    | cons k ks ih =>
      intro h
      obtain ⟨x, rfl⟩ := h k (List.mem_cons_self ..)
      obtain ⟨xs, rfl⟩ := ih fun j hj => h j (List.mem_cons_of_mem _ hj)
      exact ⟨x :: xs, rfl⟩
  obtain ⟨xs, hx⟩ := hk (sk (kI is)) fun k h => by
    obtain ⟨i, _, e⟩ := (hm k).mp h
    exact ⟨i, e⟩
  have hmem : ∀ x, x ∈ xs ↔ x ∈ is := fun x => by
    have := hm (.inl x)
    rw [hx] at this
    constructor
    · intro z
      obtain ⟨i, hi, e⟩ := this.mp (List.mem_map.mpr ⟨x, z, rfl⟩)
      cases e
      exact hi
    · intro z
      obtain ⟨y, hy, e⟩ := List.mem_map.mp (this.mpr ⟨x, z, rfl⟩)
      cases e
      exact hy
  have nd : xs.Nodup := by
    have := sk_nd (kI is)
    rw [hx] at this
    exact (List.pairwise_map.mp this).imp fun h e => h (by rw [e])
  have le : xs.Pairwise (· ≤ ·) := by
    obtain ⟨zs, hz⟩ := hk (dedK (kI is)) fun k h => by
      obtain ⟨i, _, e⟩ := List.mem_map.mp (dedK_mem.mp h)
      exact ⟨i, e.symm⟩
    have e1 := srt_sk (kI is)
    rw [hx, hz] at e1
    have e2 : (zs.map Sum.inl : List Key).map kD = zs.map .int := by rw [List.map_map]; rfl
    have e3 : (xs.map Sum.inl : List Key).map kD = xs.map .int := by rw [List.map_map]; rfl
    rw [e2, e3, srtD_ints] at e1
    have inj : ∀ as bs : List Int, as.map PyData.int = bs.map PyData.int → as = bs := by
      intro as
      induction as with
      | nil => intro bs e; cases bs with
        | nil => rfl
        | cons b bs => cases e
      | cons a as ih => intro bs e; cases bs with
        | nil => cases e
        | cons b bs =>
          obtain ⟨q1, q2⟩ := List.cons.inj e
          rw [PyData.int.inj q1, ih bs q2]
    rw [← inj _ _ e1]
    exact srtI_le zs
  cases xs with
  | nil =>
    cases is with
    | nil => exact absurd rfl h
    | cons i r => exact absurd ((hmem i).mpr (List.mem_cons_self ..)) (by simp)
  | cons g0 r =>
    refine ⟨g0, r, by rw [hx]; simp [kD], fun g hg => ?_, hmem, nd⟩
    rcases List.mem_cons.mp ((hmem g).mpr hg) with rfl | z
    · exact Int.le_refl _
    · exact (List.pairwise_cons.mp le).1 g z
theorem dEq_g (g0 : Int) (r : List Int) : dEq (.list (.int g0 :: r.map .int)) (.list [.int 0]) = some (.bool (decide (g0 = 0) && r.isEmpty), false) := by
  rw [dEq_of (Sh.lst (k := 0) fun d hd => by
    rcases List.mem_cons.mp hd with rfl | hd
    · exact Sh.int _
    · obtain ⟨i, _, rfl⟩ := List.mem_map.mp hd
      exact Sh.int i) (Sh.lst (k := 0) fun d hd => by rw [List.mem_singleton.mp hd]; exact Sh.int 0) (by omega) (by omega)]
  cases r <;> simp [PyData.eqv, PyData.eqvAll]
  rfl
end Hd
namespace Hd
open PySem PySem.Spec L2 Fx

/-! ### rows -/
theorem gaps_law {dr : List Int} (n : Nat) (sc : D) {m : Nat} {L : List Sm} (h : GL m L) {most : Int} (acc : List D) {i j : Nat} (hi : i < m) (hj : j < m) (x2 x6 x7 x14 x15 x16 x17 x18 x19 x20 x21 : Option (D × Bool)) : fLc [7] (itV (fName 3)) (gN 7) (tTrue) (toV (f2 (toO (f2 (fSlot 7) (fSlot 13) dIxA)) (toO (f2 (fSlot 7) (fSlot 12) dIxA)) (isI iSub))) [some (sc, .sh), some (eW dr n, .own), jk x2, some (eL m L, .sh), some (.list (NM m), .sh), some (.dict (TO m L), .own), jk x6, jk x7, some (.list ((stl m L).map fun i => .str (nm i)), .sh), some (.int most, .sh), some (.list (((rg m).filter (cF L most)).map fun i => .str (nm i)), .sh), some (.list (acc), .own), some (.str (nm i), .sh), some (.str (nm j), .sh), jk x14, jk x15, jk x16, jk x17, jk x18, jk x19, jk x20, jk x21] = some (.list ((gp L i j).map .int), true, [some (sc, .sh), some (eW dr n, .own), jk x2, some (eL m L, .sh), some (.list (NM m), .sh), some (.dict (TO m L), .own), jk x6, jk x7, some (.list ((stl m L).map fun i => .str (nm i)), .sh), some (.int most, .sh), some (.list (((rg m).filter (cF L most)).map fun i => .str (nm i)), .sh), some (.list (acc), .own), some (.str (nm i), .sh), some (.str (nm j), .sh), jk x14, jk x15, jk x16, jk x17, jk x18, jk x19, jk x20, jk x21]) := by
  refine (fLc_typ (eT m) L (fun _ => true) (fun f => .int (f j - f i)) (en1 := [some (sc, .sh), some (eW dr n, .own), jk x2, some (eL m L, .sh), some (.list (NM m), .sh), some (.dict (TO m L), .own), jk x6, jk x7, some (.list ((stl m L).map fun i => .str (nm i)), .sh), some (.int most, .sh), some (.list (((rg m).filter (cF L most)).map fun i => .str (nm i)), .sh), some (.list (acc), .own), some (.str (nm i), .sh), some (.str (nm j), .sh), jk x14, jk x15, jk x16, jk x17, jk x18, jk x19, jk x20, jk x21]) ?_ rfl rfl (by rw [sl_ok]; have := h.l5; omega) (fun f hf => ?_)).trans (by rw [filt_true]; unfold gp; rw [List.map_map]; rfl)
  · rw [e_itV]
    simp [eL]
  · have h1 := ix_e h.m4 f hi
    have h2 := ix_e h.m4 f hj
    generalize eT m f = S1 at *
    generalize eL m L = S2 at *
    generalize TO m L = DT at *
    generalize (stl m L).map (fun i => PyData.str (nm i)) = ST8 at *
    generalize ((rg m).filter (cF L most)).map (fun i => PyData.str (nm i)) = ST10 at *
    refine ⟨[some (sc, .sh), some (eW dr n, .own), jk x2, some (S2, .sh), some (.list (NM m), .sh), some (.dict (DT), .own), jk x6, some (S1, .sh), some (.list ST8, .sh), some (.int most, .sh), some (.list ST10, .sh), some (.list (acc), .own), some (.str (nm i), .sh), some (.str (nm j), .sh), jk x14, jk x15, jk x16, jk x17, jk x18, jk x19, jk x20, jk x21], ?_, ?_, fun _ => ?_, rfl⟩
    · simp [wipeE]
    · simp
    · simp [h1, h2]
theorem orw_of (L : List Sm) (i j : Nat) {g0 : Int} {r : List Int} (h1 : ∀ g ∈ gp L i j, g0 ≤ g) (h2 : ∀ x, x ∈ g0 :: r ↔ x ∈ gp L i j) (h3 : (g0 :: r).Nodup) : orw L i j = if 0 < g0 then [row3 i "less" j] else if (decide (g0 = 0) && r.isEmpty) = true then (if ltB i j = true then [row3 i "same" j] else []) else if g0 = 0 then [row3 i "most" j] else [] := by
  have m0 : g0 ∈ gp L i j := (h2 g0).mp (List.mem_cons_self ..)
  have a1 : ((gp L i j).all fun g => decide (0 < g)) = true ↔ 0 < g0 := by
    rw [List.all_eq_true]
    exact ⟨fun z => of_decide_eq_true (z g0 m0), fun z g hg => decide_eq_true (by have := h1 g hg; omega)⟩
  have a2 : ((gp L i j).all fun g => decide (g = 0)) = true ↔ (decide (g0 = 0) && r.isEmpty) = true := by
    rw [List.all_eq_true, Bool.and_eq_true, decide_eq_true_eq, List.isEmpty_iff]
    constructor
    · intro z
      have z0 : g0 = 0 := of_decide_eq_true (z g0 m0)
      refine ⟨z0, ?_⟩
      cases r with
      | nil => rfl
      | cons x r =>
        have hx : x = 0 := of_decide_eq_true (z x ((h2 x).mp (by simp)))
        rw [z0, hx] at h3
        exact absurd (List.mem_cons_self ..) (List.nodup_cons.mp h3).1
    · rintro ⟨z0, zr⟩ g hg
      rw [zr] at h2
      have := (h2 g).mpr hg
      rw [List.mem_singleton] at this
      exact decide_eq_true (by omega)
  have a3 : ((gp L i j).all fun g => decide (0 ≤ g)) = true ↔ 0 ≤ g0 := by
    rw [List.all_eq_true]
    exact ⟨fun z => of_decide_eq_true (z g0 m0), fun z g hg => decide_eq_true (by have := h1 g hg; omega)⟩
  unfold orw
  by_cases c1 : 0 < g0
  · rw [if_pos (a1.mpr c1), if_pos c1]
  · rw [if_neg (fun z => c1 (a1.mp z)), if_neg c1]
    by_cases c2 : (decide (g0 = 0) && r.isEmpty) = true
    · rw [if_pos (a2.mpr c2), if_pos c2]
    · rw [if_neg (fun z => c2 (a2.mp z)), if_neg c2]
      by_cases c3 : g0 = 0
      · rw [if_pos (a3.mpr (by omega)), if_pos c3]
      · rw [if_neg (fun z => c3 (by have := a3.mp z; omega)), if_neg c3]
theorem row_ok {dr : List Int} (n : Nat) (sc : D) {m : Nat} {L : List Sm} (h : GL m L) {most : Int} {acc : List D} (ha : acc.length ≤ 1000) {i j : Nat} (hi : i < m) (hj : j < m) (x2 x6 x7 x14 x15 x16 x17 x18 x19 x20 x21 : Option (D × Bool)) : Wp (sSeq (sSet 15 (fN (aCons (toO (fLc [7] (itV (fName 3)) (gN 7) (tTrue) (toV (f2 (toO (f2 (fSlot 7) (fSlot 13) dIxA)) (toO (f2 (fSlot 7) (fSlot 12) dIxA)) (isI iSub))))) (aNil)) dSortSetK)) (sIf (tB1 (f2 (toO (f2 (fSlot 15) (svO (fC (.int 0))) dIxA)) (svO (fC (.int 0))) (isI iGt))) (sExpr (fMut 11 isLst (lCons (fTup (lCons (fName 12) (lCons (fC (.str "less")) (lCons (fName 13) (lNil))))) (lNil)) mAppend)) (sIf (tB1 (f2 (fSlot 15) (toO (fLst (lCons (fC (.int 0)) (lNil)))) (dEq))) (sSet 11 (f2 (fSlot 11) (toO (fIf (tB1 (f2 (fSlot 12) (fSlot 13) (dLtS))) (fLst (lCons (fTup (lCons (fName 12) (lCons (fC (.str "same")) (lCons (fName 13) (lNil))))) (lNil))) (fLst (lNil)))) (dAdd))) (sIf (tB1 (f2 (toO (f2 (fSlot 15) (svO (fC (.int 0))) dIxA)) (svO (fC (.int 0))) (dEq))) (sExpr (fMut 11 isLst (lCons (fTup (lCons (fName 12) (lCons (fC (.str "most")) (lCons (fName 13) (lNil))))) (lNil)) mAppend)) (sNx)))) [some (sc, .sh), some (eW dr n, .own), jk x2, some (eL m L, .sh), some (.list (NM m), .sh), some (.dict (TO m L), .own), jk x6, jk x7, some (.list ((stl m L).map fun i => .str (nm i)), .sh), some (.int most, .sh), some (.list (((rg m).filter (cF L most)).map fun i => .str (nm i)), .sh), some (.list (acc), .own), some (.str (nm i), .sh), some (.str (nm j), .sh), jk x14, jk x15, jk x16, jk x17, jk x18, jk x19, jk x20, jk x21]) fun y => y.1 = .nx ∧ ∃ x15 : Option (D × Bool), y.2 = [some (sc, .sh), some (eW dr n, .own), jk x2, some (eL m L, .sh), some (.list (NM m), .sh), some (.dict (TO m L), .own), jk x6, jk x7, some (.list ((stl m L).map fun i => .str (nm i)), .sh), some (.int most, .sh), some (.list (((rg m).filter (cF L most)).map fun i => .str (nm i)), .sh), some (.list (acc ++ orw L i j), .own), some (.str (nm i), .sh), some (.str (nm j), .sh), jk x14, jk x15, jk x16, jk x17, jk x18, jk x19, jk x20, jk x21] := by
  have hlc := gaps_law (dr := dr) n sc h (most := most) acc hi hj x2 x6 x7 x14 x15 x16 x17 x18 x19 x20 x21
  have hgl : (gp L i j).length ≤ 1000 := by unfold gp; rw [List.length_map]; have := h.l5; omega
  have hgn : gp L i j ≠ [] := fun e => h.l1 (List.map_eq_nil_iff.mp e)
  have hss := ss_ints hgl
  obtain ⟨g0, r, e1, e2, e3, e4⟩ := sk_ints hgn
  rw [e1] at hss
  rw [orw_of L i j e2 e3 e4]
  have hd := dEq_g g0 r
  have hd0 := dEq_int g0 0
  have hlt := dLtS_nm i j
  have hz : acc.length < 16777216 := by omega
  have hz2 : acc.length + 1 ≤ 16777216 := by omega
  have hz3 : acc.length ≤ 16777216 := by omega
  clear e1 e2 e3 e4
  generalize ltB i j = c4 at *
  generalize (decide (g0 = 0) && r.isEmpty) = c2 at *
  generalize r.map PyData.int = RL at *
  generalize (gp L i j).map PyData.int = IL at *
  generalize eL m L = S2 at *
  generalize TO m L = DT at *
  generalize (stl m L).map (fun i => PyData.str (nm i)) = ST8 at *
  generalize ((rg m).filter (cF L most)).map (fun i => PyData.str (nm i)) = ST10 at *
  rw [wp_sSeq]
  refine wp_of (y := (Out.nx, ([some (sc, .sh), some (eW dr n, .own), jk x2, some (S2, .sh), some (.list (NM m), .sh), some (.dict (DT), .own), jk x6, jk x7, some (.list ST8, .sh), some (.int most, .sh), some (.list ST10, .sh), some (.list (acc), .own), some (.str (nm i), .sh), some (.str (nm j), .sh), jk x14, some (.list (.int g0 :: RL), .own), jk x16, jk x17, jk x18, jk x19, jk x20, jk x21] : En))) (by simp [hlc, hss]) ?_
  refine later_i ?_
  have r1 : row3 i "less" j = .tuple [.str (nm i), .str (Str.ofString "less"), .str (nm j)] := rfl
  have r2 : row3 i "same" j = .tuple [.str (nm i), .str (Str.ofString "same"), .str (nm j)] := rfl
  have r3 : row3 i "most" j = .tuple [.str (nm i), .str (Str.ofString "most"), .str (nm j)] := rfl
  rw [r1, r2, r3]
  by_cases c1 : 0 < g0
  · simp [c1, hz]
    exact ⟨some (PyData.list (.int g0 :: RL), true), rfl⟩
  · cases c2 with
    | true => cases c4 with
      | true =>
        simp [c1, hd, hlt, hz2]
        exact ⟨some (PyData.list (.int g0 :: RL), true), rfl⟩
      | false =>
        simp [c1, hd, hlt, hz3]
        exact ⟨some (PyData.list (.int g0 :: RL), true), rfl⟩
    | false =>
      by_cases c3 : g0 = 0
      · subst c3
        simp at hd0
        simp [hd, hd0, hz]
        exact ⟨some (PyData.list (.int 0 :: RL), true), rfl⟩
      · simp [c3] at hd0
        simp [c1, hd, hd0, c3]
        exact ⟨some (PyData.list (.int g0 :: RL), true), rfl⟩
end Hd
namespace Hd
open PySem PySem.Spec L2 Fx

def orF (L : List Sm) (i : Nat) (js : List Nat) : List D := js.flatMap fun j => orw L i j
theorem orF_len (L : List Sm) (i : Nat) : ∀ js : List Nat, (orF L i js).length ≤ js.length
  | [] => Nat.le_refl _
  | j :: js => by
    have ih := orF_len L i js
    have h1 := orw_len L i j
    unfold orF at *
    rw [List.flatMap_cons, List.length_append, List.length_cons]
    omega
theorem orF_orA (m : Nat) (L : List Sm) (i : Nat) : ∀ js : List Nat, orF L i (js.filter fun j => !decide (j = i)) = orA m L i js
  | [] => rfl
  | j :: js => by
    have ih := orF_orA m L i js
    unfold orF orA at *
    rw [List.flatMap_cons]
    by_cases e : j = i
    · subst e
      rw [List.filter_cons_of_neg (by simp), if_pos rfl, ih]
      rfl
    · rw [List.filter_cons_of_pos (by simpa using e), List.flatMap_cons, if_neg (fun z => e z.symm), ih]
theorem c14_ok {dr : List Int} (n : Nat) (sc : D) {m : Nat} {L : List Sm} (h : GL m L) {most : Int} (acc : List D) {i : Nat} (hi : i < m) (x2 x6 x7 x13 x14 x15 x16 x17 x18 x19 x20 x21 : Option (D × Bool)) : fLc [14] (itV (fName 4)) (gN 14) (tB1 (f2 (fSlot 14) (fSlot 12) (dNe))) (fName 14) [some (sc, .sh), some (eW dr n, .own), jk x2, some (eL m L, .sh), some (.list (NM m), .sh), some (.dict (TO m L), .own), jk x6, jk x7, some (.list ((stl m L).map fun i => .str (nm i)), .sh), some (.int most, .sh), some (.list (((rg m).filter (cF L most)).map fun i => .str (nm i)), .sh), some (.list (acc), .own), some (.str (nm i), .sh), jk x13, jk x14, jk x15, jk x16, jk x17, jk x18, jk x19, jk x20, jk x21] = some (.list (((rg m).filter fun j => !decide (j = i)).map fun i => .str (nm i)), true, [some (sc, .sh), some (eW dr n, .own), jk x2, some (eL m L, .sh), some (.list (NM m), .sh), some (.dict (TO m L), .own), jk x6, jk x7, some (.list ((stl m L).map fun i => .str (nm i)), .sh), some (.int most, .sh), some (.list (((rg m).filter (cF L most)).map fun i => .str (nm i)), .sh), some (.list (acc), .own), some (.str (nm i), .sh), jk x13, jk x14, jk x15, jk x16, jk x17, jk x18, jk x19, jk x20, jk x21]) := by
  have hm := h.m4
  refine (fLc_typ (fun i => .str (nm i)) (rg m) (fun j => !decide (j = i)) (fun i => .str (nm i)) (en1 := [some (sc, .sh), some (eW dr n, .own), jk x2, some (eL m L, .sh), some (.list (NM m), .sh), some (.dict (TO m L), .own), jk x6, jk x7, some (.list ((stl m L).map fun i => .str (nm i)), .sh), some (.int most, .sh), some (.list (((rg m).filter (cF L most)).map fun i => .str (nm i)), .sh), some (.list (acc), .own), some (.str (nm i), .sh), jk x13, jk x14, jk x15, jk x16, jk x17, jk x18, jk x19, jk x20, jk x21]) ?_ rfl rfl (by rw [sl_ok, rg_len]; omega) (fun j hj => ?_)).trans rfl
  · rw [e_itV]
    simp [NM]
  · have hne := dNe_nm (i := j) (j := i) (Nat.lt_of_lt_of_le (rg_lt hj) hm) (by omega)
    generalize eL m L = S2 at *
    generalize TO m L = DT at *
    generalize (stl m L).map (fun i => PyData.str (nm i)) = ST8 at *
    generalize ((rg m).filter (cF L most)).map (fun i => PyData.str (nm i)) = ST10 at *
    refine ⟨[some (sc, .sh), some (eW dr n, .own), jk x2, some (S2, .sh), some (.list (NM m), .sh), some (.dict (DT), .own), jk x6, jk x7, some (.list ST8, .sh), some (.int most, .sh), some (.list ST10, .sh), some (.list (acc), .own), some (.str (nm i), .sh), jk x13, some (.str (nm j), .sh), jk x15, jk x16, jk x17, jk x18, jk x19, jk x20, jk x21], ?_, ?_, fun _ => ?_, rfl⟩
    · simp [wipeE]
    · simp [hne]
    · simp
def IRi (dr : List Int) (n : Nat) (sc : D) (m : Nat) (L : List Sm) (most : Int) (acc : List D) (i : Nat) (x2 x6 x7 x14 x16 x17 x18 x19 x20 x21 : Option (D × Bool)) (ds : List D) (en : En) : Prop := ∃ (don rest : List Nat) (x13 x15 : Option (D × Bool)), don ++ rest = ((rg m).filter fun j => !decide (j = i)) ∧ ds = (rest.map fun i => .str (nm i)) ∧ en = [some (sc, .sh), some (eW dr n, .own), jk x2, some (eL m L, .sh), some (.list (NM m), .sh), some (.dict (TO m L), .own), jk x6, jk x7, some (.list ((stl m L).map fun i => .str (nm i)), .sh), some (.int most, .sh), some (.list (((rg m).filter (cF L most)).map fun i => .str (nm i)), .sh), some (.list (acc ++ orF L i don), .own), some (.str (nm i), .sh), jk x13, jk x14, jk x15, jk x16, jk x17, jk x18, jk x19, jk x20, jk x21]
theorem rowin_ok {dr : List Int} (n : Nat) (sc : D) {m : Nat} {L : List Sm} (h : GL m L) {most : Int} {acc : List D} (ha : acc.length ≤ 500) {i : Nat} (hi : i < m) (x2 x6 x7 x13 x14 x15 x16 x17 x18 x19 x20 x21 : Option (D × Bool)) : Wp (sFor (itV (toV (fLc [14] (itV (fName 4)) (gN 14) (tB1 (f2 (fSlot 14) (fSlot 12) (dNe))) (fName 14)))) (gN 13) (sSeq (sSet 15 (fN (aCons (toO (fLc [7] (itV (fName 3)) (gN 7) (tTrue) (toV (f2 (toO (f2 (fSlot 7) (fSlot 13) dIxA)) (toO (f2 (fSlot 7) (fSlot 12) dIxA)) (isI iSub))))) (aNil)) dSortSetK)) (sIf (tB1 (f2 (toO (f2 (fSlot 15) (svO (fC (.int 0))) dIxA)) (svO (fC (.int 0))) (isI iGt))) (sExpr (fMut 11 isLst (lCons (fTup (lCons (fName 12) (lCons (fC (.str "less")) (lCons (fName 13) (lNil))))) (lNil)) mAppend)) (sIf (tB1 (f2 (fSlot 15) (toO (fLst (lCons (fC (.int 0)) (lNil)))) (dEq))) (sSet 11 (f2 (fSlot 11) (toO (fIf (tB1 (f2 (fSlot 12) (fSlot 13) (dLtS))) (fLst (lCons (fTup (lCons (fName 12) (lCons (fC (.str "same")) (lCons (fName 13) (lNil))))) (lNil))) (fLst (lNil)))) (dAdd))) (sIf (tB1 (f2 (toO (f2 (fSlot 15) (svO (fC (.int 0))) dIxA)) (svO (fC (.int 0))) (dEq))) (sExpr (fMut 11 isLst (lCons (fTup (lCons (fName 12) (lCons (fC (.str "most")) (lCons (fName 13) (lNil))))) (lNil)) mAppend)) (sNx))))) [some (sc, .sh), some (eW dr n, .own), jk x2, some (eL m L, .sh), some (.list (NM m), .sh), some (.dict (TO m L), .own), jk x6, jk x7, some (.list ((stl m L).map fun i => .str (nm i)), .sh), some (.int most, .sh), some (.list (((rg m).filter (cF L most)).map fun i => .str (nm i)), .sh), some (.list (acc), .own), some (.str (nm i), .sh), jk x13, jk x14, jk x15, jk x16, jk x17, jk x18, jk x19, jk x20, jk x21]) fun y => y.1 = .nx ∧ ∃ x13 x15 : Option (D × Bool), y.2 = [some (sc, .sh), some (eW dr n, .own), jk x2, some (eL m L, .sh), some (.list (NM m), .sh), some (.dict (TO m L), .own), jk x6, jk x7, some (.list ((stl m L).map fun i => .str (nm i)), .sh), some (.int most, .sh), some (.list (((rg m).filter (cF L most)).map fun i => .str (nm i)), .sh), some (.list (acc ++ orA m L i (rg m)), .own), some (.str (nm i), .sh), jk x13, jk x14, jk x15, jk x16, jk x17, jk x18, jk x19, jk x20, jk x21] := by
  have hm := h.m4
  have hc := c14_ok (dr := dr) n sc h (most := most) acc hi x2 x6 x7 x13 x14 x15 x16 x17 x18 x19 x20 x21
  rw [wp_sFor, wp_itV]
  refine wp_of (y := (PyData.list (((rg m).filter fun j => !decide (j = i)).map fun i => .str (nm i)), ([some (sc, .sh), some (eW dr n, .own), jk x2, some (eL m L, .sh), some (.list (NM m), .sh), some (.dict (TO m L), .own), jk x6, jk x7, some (.list ((stl m L).map fun i => .str (nm i)), .sh), some (.int most, .sh), some (.list (((rg m).filter (cF L most)).map fun i => .str (nm i)), .sh), some (.list (acc), .own), some (.str (nm i), .sh), jk x13, jk x14, jk x15, jk x16, jk x17, jk x18, jk x19, jk x20, jk x21] : En))) (by simp [hc, -List.map_map]) ?_
  refine wp_of (y := ((rg m).filter fun j => !decide (j = i)).map fun i => .str (nm i)) rfl ?_
  refine wp_mono (for_inv (IRi dr n sc m L most acc i x2 x6 x7 x14 x16 x17 x18 x19 x20 x21) (Q := fun y => y.1 = .nx ∧ IRi dr n sc m L most acc i x2 x6 x7 x14 x16 x17 x18 x19 x20 x21 [] y.2) ?_ (fun en h => ⟨rfl, h⟩) _ _ ⟨[], _, x13, x15, rfl, rfl, by simp [orF]⟩) ?_
  · rintro d r en ⟨don, rest, x13, x15, hr, hds, rfl⟩
    cases rest with
    | nil => cases hds
    | cons j rest =>
      obtain ⟨rfl, rfl⟩ := List.cons.inj hds
      have hj : j ∈ ((rg m).filter fun j => !decide (j = i)) := by rw [← hr]; simp
      have hjm := rg_lt (List.mem_filter.mp hj).1
      refine wp_of (y := ([some (sc, .sh), some (eW dr n, .own), jk x2, some (eL m L, .sh), some (.list (NM m), .sh), some (.dict (TO m L), .own), jk x6, jk x7, some (.list ((stl m L).map fun i => .str (nm i)), .sh), some (.int most, .sh), some (.list (((rg m).filter (cF L most)).map fun i => .str (nm i)), .sh), some (.list (acc ++ orF L i don), .own), some (.str (nm i), .sh), some (.str (nm j), .sh), jk x14, jk x15, jk x16, jk x17, jk x18, jk x19, jk x20, jk x21] : En)) (by simp) ?_
      have hl := orF_len L i don
      have hl2 : don.length ≤ 4 := by
        have h1 := congrArg List.length hr
        have h2 := List.length_filter_le (fun j => !decide (j = i)) (rg m)
        rw [List.length_append, List.length_cons] at h1
        rw [rg_len] at h2
        omega
      refine wp_mono (row_ok (dr := dr) n sc h (most := most) (acc := acc ++ orF L i don) (by rw [List.length_append]; omega) hi hjm x2 x6 x7 x14 x15 x16 x17 x18 x19 x20 x21) ?_
      rintro ⟨o, en⟩ ⟨rfl, x15, rfl⟩
      refine ⟨don ++ [j], rest, some (.str (nm j), false), x15, by rw [List.append_assoc]; exact hr, rfl, ?_⟩
      have : orF L i (don ++ [j]) = orF L i don ++ orw L i j := by
        unfold orF
        rw [List.flatMap_append]
        simp
      rw [this, ← List.append_assoc]
      rfl
  · rintro ⟨o, en⟩ ⟨rfl, don, rest, x13, x15, hr, hds, rfl⟩
    cases rest with
    | cons j rest => cases hds
    | nil =>
      rw [List.append_nil] at hr
      rw [hr, orF_orA]
      exact ⟨rfl, x13, x15, rfl⟩
def IRo (dr : List Int) (n : Nat) (sc : D) (m : Nat) (L : List Sm) (most : Int) (x2 x6 x7 x14 x16 x17 x18 x19 x20 x21 : Option (D × Bool)) (ds : List D) (en : En) : Prop := ∃ (don rest : List Nat) (x12 x13 x15 : Option (D × Bool)), don ++ rest = rg m ∧ ds = (rest.map fun i => .str (nm i)) ∧ en = [some (sc, .sh), some (eW dr n, .own), jk x2, some (eL m L, .sh), some (.list (NM m), .sh), some (.dict (TO m L), .own), jk x6, jk x7, some (.list ((stl m L).map fun i => .str (nm i)), .sh), some (.int most, .sh), some (.list (((rg m).filter (cF L most)).map fun i => .str (nm i)), .sh), some (.list (orT m L don), .own), jk x12, jk x13, jk x14, jk x15, jk x16, jk x17, jk x18, jk x19, jk x20, jk x21]
theorem t11 {dr : List Int} (n : Nat) (sc : D) {m : Nat} {L : List Sm} (h : GL m L) {most : Int} (x2 x6 x7 x12 x13 x14 x15 x16 x17 x18 x19 x20 x21 : Option (D × Bool)) : Wp (sFor (itV (fName 4)) (gN 12) (sFor (itV (toV (fLc [14] (itV (fName 4)) (gN 14) (tB1 (f2 (fSlot 14) (fSlot 12) (dNe))) (fName 14)))) (gN 13) (sSeq (sSet 15 (fN (aCons (toO (fLc [7] (itV (fName 3)) (gN 7) (tTrue) (toV (f2 (toO (f2 (fSlot 7) (fSlot 13) dIxA)) (toO (f2 (fSlot 7) (fSlot 12) dIxA)) (isI iSub))))) (aNil)) dSortSetK)) (sIf (tB1 (f2 (toO (f2 (fSlot 15) (svO (fC (.int 0))) dIxA)) (svO (fC (.int 0))) (isI iGt))) (sExpr (fMut 11 isLst (lCons (fTup (lCons (fName 12) (lCons (fC (.str "less")) (lCons (fName 13) (lNil))))) (lNil)) mAppend)) (sIf (tB1 (f2 (fSlot 15) (toO (fLst (lCons (fC (.int 0)) (lNil)))) (dEq))) (sSet 11 (f2 (fSlot 11) (toO (fIf (tB1 (f2 (fSlot 12) (fSlot 13) (dLtS))) (fLst (lCons (fTup (lCons (fName 12) (lCons (fC (.str "same")) (lCons (fName 13) (lNil))))) (lNil))) (fLst (lNil)))) (dAdd))) (sIf (tB1 (f2 (toO (f2 (fSlot 15) (svO (fC (.int 0))) dIxA)) (svO (fC (.int 0))) (dEq))) (sExpr (fMut 11 isLst (lCons (fTup (lCons (fName 12) (lCons (fC (.str "most")) (lCons (fName 13) (lNil))))) (lNil)) mAppend)) (sNx)))))) [some (sc, .sh), some (eW dr n, .own), jk x2, some (eL m L, .sh), some (.list (NM m), .sh), some (.dict (TO m L), .own), jk x6, jk x7, some (.list ((stl m L).map fun i => .str (nm i)), .sh), some (.int most, .sh), some (.list (((rg m).filter (cF L most)).map fun i => .str (nm i)), .sh), some (.list ([]), .own), jk x12, jk x13, jk x14, jk x15, jk x16, jk x17, jk x18, jk x19, jk x20, jk x21]) fun y => y.1 = .nx ∧ ∃ x12 x13 x15 : Option (D × Bool), y.2 = [some (sc, .sh), some (eW dr n, .own), jk x2, some (eL m L, .sh), some (.list (NM m), .sh), some (.dict (TO m L), .own), jk x6, jk x7, some (.list ((stl m L).map fun i => .str (nm i)), .sh), some (.int most, .sh), some (.list (((rg m).filter (cF L most)).map fun i => .str (nm i)), .sh), some (.list (orT m L (rg m)), .own), jk x12, jk x13, jk x14, jk x15, jk x16, jk x17, jk x18, jk x19, jk x20, jk x21] := by
  have hm := h.m4
  rw [wp_sFor, wp_itV]
  refine wp_of (y := (PyData.list (NM m), ([some (sc, .sh), some (eW dr n, .own), jk x2, some (eL m L, .sh), some (.list (NM m), .sh), some (.dict (TO m L), .own), jk x6, jk x7, some (.list ((stl m L).map fun i => .str (nm i)), .sh), some (.int most, .sh), some (.list (((rg m).filter (cF L most)).map fun i => .str (nm i)), .sh), some (.list ([]), .own), jk x12, jk x13, jk x14, jk x15, jk x16, jk x17, jk x18, jk x19, jk x20, jk x21] : En))) (by simp) ?_
  refine wp_of (y := NM m) rfl ?_
  refine wp_mono (for_inv (IRo dr n sc m L most x2 x6 x7 x14 x16 x17 x18 x19 x20 x21) (Q := fun y => y.1 = .nx ∧ IRo dr n sc m L most x2 x6 x7 x14 x16 x17 x18 x19 x20 x21 [] y.2) ?_ (fun en h => ⟨rfl, h⟩) _ _ ⟨[], rg m, x12, x13, x15, rfl, rfl, by simp [orT]⟩) ?_
  · rintro d r en ⟨don, rest, x12, x13, x15, hr, hds, rfl⟩
    cases rest with
    | nil => cases hds
    | cons i rest =>
      obtain ⟨rfl, rfl⟩ := List.cons.inj hds
      obtain ⟨b4, hi, hn, hlen⟩ := don_new hm hr
      refine wp_of (y := ([some (sc, .sh), some (eW dr n, .own), jk x2, some (eL m L, .sh), some (.list (NM m), .sh), some (.dict (TO m L), .own), jk x6, jk x7, some (.list ((stl m L).map fun i => .str (nm i)), .sh), some (.int most, .sh), some (.list (((rg m).filter (cF L most)).map fun i => .str (nm i)), .sh), some (.list (orT m L don), .own), some (.str (nm i), .sh), jk x13, jk x14, jk x15, jk x16, jk x17, jk x18, jk x19, jk x20, jk x21] : En)) (by simp) ?_
      have hl := orT_len m L don
      have hl2 : don.length * m ≤ 16 := by
        have := Nat.mul_le_mul (show don.length ≤ 4 by omega) hm
        omega
      refine wp_mono (rowin_ok (dr := dr) n sc h (most := most) (acc := orT m L don) (by omega) hi x2 x6 x7 x13 x14 x15 x16 x17 x18 x19 x20 x21) ?_
      rintro ⟨o, en⟩ ⟨rfl, x13, x15, rfl⟩
      refine ⟨don ++ [i], rest, some (.str (nm i), false), x13, x15, by rw [List.append_assoc]; exact hr, rfl, ?_⟩
      have : orT m L (don ++ [i]) = orT m L don ++ orA m L i (rg m) := by
        unfold orT
        rw [List.flatMap_append]
        simp
      rw [this]
      rfl
  · rintro ⟨o, en⟩ ⟨rfl, don, rest, x12, x13, x15, hr, hds, rfl⟩
    cases rest with
    | cons j rest => cases hds
    | nil =>
      rw [List.append_nil] at hr
      subst hr
      exact ⟨rfl, x12, x13, x15, rfl⟩
theorem t12 {dr : List Int} (n : Nat) (sc : D) {m : Nat} {L : List Sm} (h : GL m L) {most : Int} (x2 x6 x7 x12 x13 x14 x15 x16 x17 x18 x19 x20 x21 : Option (D × Bool)) : sIf (tNotF (tB1 (fCall 2 (lCons (toV (fCall 1 (lCons (fName 3) (lNil)) F_orders)) (lCons (toV (fN (aCons (toO (fN (aCons (fSlot 11) (aNil)) dSort)) (aNil)) dTuple)) (lNil))) (F__law_same recN)))) (sRet (ofV (fC (.bool false)))) (sNx) [some (sc, .sh), some (eW dr n, .own), jk x2, some (eL m L, .sh), some (.list (NM m), .sh), some (.dict (TO m L), .own), jk x6, jk x7, some (.list ((stl m L).map fun i => .str (nm i)), .sh), some (.int most, .sh), some (.list (((rg m).filter (cF L most)).map fun i => .str (nm i)), .sh), some (.list (orT m L (rg m)), .own), jk x12, jk x13, jk x14, jk x15, jk x16, jk x17, jk x18, jk x19, jk x20, jk x21] = some (.nx, [some (sc, .sh), some (eW dr n, .own), jk x2, some (eL m L, .sh), some (.list (NM m), .sh), some (.dict (TO m L), .own), jk x6, jk x7, some (.list ((stl m L).map fun i => .str (nm i)), .sh), some (.int most, .sh), some (.list (((rg m).filter (cF L most)).map fun i => .str (nm i)), .sh), some (.list (orT m L (rg m)), .own), jk x12, jk x13, jk x14, jk x15, jk x16, jk x17, jk x18, jk x19, jk x20, jk x21]) := by
  have hm := h.m4
  have hc := orders_ok h
  have hz := orT_len m L (rg m)
  rw [rg_len] at hz
  have hz2 : m * m ≤ 16 := by
    have := Nat.mul_le_mul hm hm
    omega
  have sr := sort_r3 (orT_r3 m L (rg m)) (by omega)
  have sd : F__law_same recN [.tuple (srtD (orT m L (rg m))), .tuple (srtD (orT m L (rg m)))] = some (.bool true, false) := same_ok (n := 2) (.tup (fun d hd => by
    have hd : d ∈ orT m L (rg m) := (List.mergeSort_perm _ _).mem_iff.mp hd
    obtain ⟨i, w, j, rfl⟩ := orT_r3 m L (rg m) d hd
    refine .tup (fun d hd => ?_) (by simp)
    simp only [List.mem_cons, List.not_mem_nil, or_false] at hd
    rcases hd with rfl | rfl | rfl
    · exact .str _ (nm_ok i)
    · exact .str _ (ofS_ok w)
    · exact .str _ (nm_ok j)) (by
    have := (List.mergeSort_perm (orT m L (rg m)) (PySem.W.dataLe false fun d : D => d)).length_eq
    show (List.mergeSort _ _).length ≤ 1000
    omega)) recN (by decide)
  generalize F_orders = A1 at *
  generalize F__law_same recN = A2 at *
  generalize srtD (orT m L (rg m)) = SO at *
  generalize orT m L (rg m) = OT at *
  generalize eL m L = S2 at *
  generalize TO m L = DT at *
  generalize (stl m L).map (fun i => PyData.str (nm i)) = ST8 at *
  generalize ((rg m).filter (cF L most)).map (fun i => PyData.str (nm i)) = ST10 at *
  simp [hc, sr, sd]
end Hd
namespace Hd
open PySem PySem.Spec L2 Fx

/-! ### measures -/
theorem fold_dvd (L : List Sm) (f0 : Int) (i : Nat) (k : Nat) : ∀ (l : List Sm) (g : Nat), k ∣ l.foldl (fun g f => Int.gcd (g : Nat) (f i - f0)) g ↔ k ∣ g ∧ ∀ f ∈ l, (k : Int) ∣ f i - f0
  | [], g => ⟨fun h => ⟨h, fun f hf => (by cases hf)⟩, fun h => h.1⟩
  | f :: l, g => by
    rw [List.foldl_cons, fold_dvd L f0 i k l]
    constructor
    · rintro ⟨h1, h2⟩
      have hk : (k : Int) ∣ (Int.gcd (g : Nat) (f i - f0) : Nat) := Int.ofNat_dvd.mpr h1
      refine ⟨Int.ofNat_dvd.mp (Int.dvd_trans hk (Int.gcd_dvd_left ..)), fun f' hf' => ?_⟩
      rcases List.mem_cons.mp hf' with rfl | hf'
      · exact Int.dvd_trans hk (Int.gcd_dvd_right ..)
      · exact h2 f' hf'
    · rintro ⟨h1, h2⟩
      refine ⟨Int.ofNat_dvd.mp ?_, fun f' hf' => h2 f' (List.mem_cons_of_mem _ hf')⟩
      exact Int.dvd_coe_gcd (Int.ofNat_dvd.mpr h1) (h2 f (List.mem_cons_self ..))
theorem gG_dvd (L : List Sm) (i k : Nat) : k ∣ gG L i ↔ ∀ f ∈ L, (k : Int) ∣ f i - hd0 L i := by
  unfold gG
  rw [fold_dvd L (hd0 L i) i k L 0]
  exact ⟨fun h => h.2, fun h => ⟨Nat.dvd_zero k, h⟩⟩
theorem gG_zero {m : Nat} {L : List Sm} (h : GL m L) (i : Nat) : gG L i = 0 ↔ (L.all fun f => decide (f i = hd0 L i)) = true := by
  rw [List.all_eq_true]
  constructor
  · intro z f hf
    have := (gG_dvd L i 0).mp (by rw [z]; exact Nat.dvd_refl 0) f hf
    have := Int.zero_dvd.mp this
    exact decide_eq_true (by omega)
  · intro z
    exact Nat.zero_dvd.mp ((gG_dvd L i 0).mpr fun f hf => by
      have := of_decide_eq_true (z f hf)
      rw [this, Int.sub_self]
      exact Int.dvd_zero _)
theorem gG_le {m : Nat} {L : List Sm} (h : GL m L) {i : Nat} (hi : i < m) (hz : gG L i ≠ 0) : gG L i ≤ 39 := by
  have hne : ¬ ∀ f ∈ L, decide (f i = hd0 L i) = true := fun z => hz ((gG_zero h i).mpr (List.all_eq_true.mpr z))
  have ⟨f, hf⟩ : ∃ f, f ∈ L ∧ f i ≠ hd0 L i := Classical.byContradiction fun z => hne fun f hf => decide_eq_true (Classical.byContradiction fun w => z ⟨f, hf, w⟩)
  have hd := (gG_dvd L i (gG L i)).mp (Nat.dvd_refl _) f hf.1
  have hb := h.dif hf.1 hi
  have := Int.natAbs_dvd_natAbs.mpr hd
  have hpos : 0 < (f i - hd0 L i).natAbs := by
    have := hf.2
    omega
  have := Nat.le_of_dvd hpos this
  have e : ((gG L i : Nat) : Int).natAbs = gG L i := Int.natAbs_natCast _
  omega
/-- those that leave the same rest -/
def abl (L : List Sm) (i : Nat) : List Nat := (List.range' 2 38).filter fun k => decide (k ∣ gG L i)
theorem rest_iff {m : Nat} {L : List Sm} (h : GL m L) (i : Nat) {k : Nat} (hk : 0 < k) : decide (((dedK (kI ((inL L i).map fun z => z - z / (k : Int) * (k : Int)))).length : Int) = 1) = decide (k ∣ gG L i) := by
  obtain ⟨f, r, rfl, e⟩ := h.cons
  rw [Bool.eq_iff_iff, decide_eq_true_eq, decide_eq_true_eq, gG_dvd]
  rw [e]
  have e2 : (inL (f :: r) i).map (fun z => z - z / (k : Int) * (k : Int)) = (f i - f i / (k : Int) * (k : Int)) :: (inL r i).map fun z => z - z / (k : Int) * (k : Int) := rfl
  rw [e2]
  have hd := ded_one (i := f i - f i / (k : Int) * (k : Int)) (is := (inL r i).map fun z => z - z / (k : Int) * (k : Int))
  have mod : ∀ z : Int, z - z / (k : Int) * (k : Int) = z % (k : Int) := fun z => by rw [Int.emod_def, Int.mul_comm]
  have hdv : ∀ a b : Int, (k : Int) ∣ a - b ↔ a % (k : Int) = b % (k : Int) := fun a b => by
    rw [Int.emod_eq_emod_iff_emod_sub_eq_zero]
    exact ⟨Int.emod_eq_zero_of_dvd, Int.dvd_of_emod_eq_zero⟩
  constructor
  · intro z g hg
    have z : (dedK (kI ((f i - f i / (k : Int) * (k : Int)) :: (inL r i).map fun z => z - z / (k : Int) * (k : Int)))).length = 1 := by omega
    rw [hdv]
    rcases List.mem_cons.mp hg with rfl | hg
    · rfl
    · have := hd.mp z _ (List.mem_map.mpr ⟨g i, List.mem_map.mpr ⟨g, hg, rfl⟩, rfl⟩)
      rw [mod, mod] at this
      exact this
  · intro z
    have : (dedK (kI ((f i - f i / (k : Int) * (k : Int)) :: (inL r i).map fun z => z - z / (k : Int) * (k : Int)))).length = 1 := hd.mpr fun j hj => by
      obtain ⟨w, hw, rfl⟩ := List.mem_map.mp hj
      obtain ⟨g, hg, rfl⟩ := List.mem_map.mp hw
      rw [mod, mod]
      exact (hdv _ _).mp (z g (List.mem_cons_of_mem _ hg))
    omega
end Hd
namespace Hd
open PySem PySem.Spec L2 Fx

theorem memD_s {z : Str} {zs : List Str} (hz : PyData.strOk z = true) (h : ∀ y ∈ zs, PyData.strOk y = true) : memD (.str z) (.list (zs.map .str)) = some (decide (z ∈ zs)) := by
  have h1 : SeqAt.shaped (.str z) = true := (Sh.str z hz).shaped (by omega)
  have h2 : SeqAt.shaped (.list (zs.map PyData.str)) = true := (Sh.lst (k := 0) fun d hd => by
    obtain ⟨y, hy, rfl⟩ := List.mem_map.mp hd
    exact Sh.str y (h y hy)).shaped (by omega)
  show (if (SeqAt.shaped (.str z) && SeqAt.shaped (.list (zs.map PyData.str))) = true then some ((zs.map PyData.str).any fun y => PyData.eqv y (.str z)) else none) = _
  rw [h1, h2]
  simp only [Bool.and_self, if_true, Option.some.injEq]
  rw [Bool.eq_iff_iff]
  simp only [List.any_eq_true, List.mem_map, decide_eq_true_eq]
  constructor
  · rintro ⟨_, ⟨n, hn, rfl⟩, e⟩
    simp [PyData.eqv] at e
    exact e ▸ hn
  · intro h
    exact ⟨_, ⟨z, h, rfl⟩, by simp [PyData.eqv]⟩
theorem dNi_stl {m : Nat} {L : List Sm} (h : GL m L) {i : Nat} (hi : i < m) : dNotIn (.str (nm i)) (.list ((stl m L).map fun i => .str (nm i))) = some (.bool (!decide (gG L i = 0)), false) := by
  have e : ((stl m L).map fun i => PyData.str (nm i)) = ((stl m L).map nm).map .str := by rw [List.map_map]; rfl
  have hm := memD_s (z := nm i) (zs := (stl m L).map nm) (nm_ok i) (fun y hy => by
    obtain ⟨j, _, rfl⟩ := List.mem_map.mp hy
    exact nm_ok j)
  unfold dNotIn
  rw [e, hm]
  have : decide (nm i ∈ (stl m L).map nm) = decide (gG L i = 0) := by
    rw [Bool.eq_iff_iff, decide_eq_true_eq, decide_eq_true_eq, gG_zero h]
    constructor
    · intro z
      obtain ⟨j, hj, e⟩ := List.mem_map.mp z
      have hj2 := List.mem_filter.mp hj
      have h4 := h.m4
      have := nm_inj (i := j) (j := i) (by have := rg_lt hj2.1; omega) (by omega) e
      subst this
      exact hj2.2
    · intro z
      exact List.mem_map.mpr ⟨i, List.mem_filter.mpr ⟨List.mem_range.mpr hi, z⟩, rfl⟩
  rw [this]
  rfl
theorem dNe_nl (ks : List Nat) : dNe (.list (ks.map iD)) (.list []) = some (.bool (!ks.isEmpty), false) := by
  rw [dNe_of (Sh.lst (k := 0) fun d hd => by
    obtain ⟨k, _, rfl⟩ := List.mem_map.mp hd
    exact Sh.int _) (Sh.lst (k := 0) fun d hd => by cases hd) (by omega) (by omega), eqv_nil]
  cases ks <;> rfl
theorem fold_max : ∀ (r : List Int) (a M : Int), (∀ x ∈ r, x ≤ M) → a ≤ M → (a = M ∨ M ∈ r) → r.foldl max a = M
  | [], a, M, _, _, h => by
    rcases h with h | h
    · exact h
    · cases h
  | x :: r, a, M, h1, h2, h3 => by
    rw [List.foldl_cons]
    have hx := h1 x (List.mem_cons_self ..)
    refine fold_max r (max a x) M (fun y hy => h1 y (List.mem_cons_of_mem _ hy)) (by omega) ?_
    rcases h3 with h3 | h3
    · exact .inl (by omega)
    · rcases List.mem_cons.mp h3 with h3 | h3
      · exact .inl (by omega)
      · exact .inr h3
theorem max_abl {L : List Sm} {i : Nat} (h1 : 1 < gG L i) (h2 : gG L i ≤ 39) : dPick PySem.W.maxD [.list ((abl L i).map iD)] = some (.int (gG L i : Nat), false) ∧ (abl L i).isEmpty = false := by
  have hm : gG L i ∈ abl L i := List.mem_filter.mpr ⟨List.mem_range'_1.mpr ⟨by omega, by omega⟩, decide_eq_true (Nat.dvd_refl _)⟩
  have hle : ∀ k ∈ abl L i, k ≤ gG L i := fun k hk => Nat.le_of_dvd (by omega) (of_decide_eq_true (List.mem_filter.mp hk).2)
  have e : (abl L i).map iD = ((abl L i).map fun k : Nat => (k : Int)).map .int := by rw [List.map_map]; rfl
  have hne : (abl L i).map (fun k : Nat => (k : Int)) ≠ [] := fun z => by
    rw [List.map_eq_nil_iff.mp z] at hm
    cases hm
  refine ⟨?_, by cases hh : abl L i with
    | nil => rw [hh] at hm; cases hm
    | cons a b => rfl⟩
  rw [e, max_ints hne]
  cases hh : abl L i with
  | nil => rw [hh] at hm; cases hm
  | cons a b =>
    rw [hh] at hm hle
    have : mxI ((a :: b).map fun k : Nat => (k : Int)) = (gG L i : Nat) := by
      show toI (PySem.W.maxD (.int (a : Int)) ((b.map fun k : Nat => (k : Int)).map .int)) = _
      rw [PySem.W.maxD_ints]
      refine fold_max _ _ _ (fun x hx => ?_) ?_ ?_
      · obtain ⟨k, hk, rfl⟩ := List.mem_map.mp hx
        exact Int.ofNat_le.mpr (hle k (List.mem_cons_of_mem _ hk))
      · exact Int.ofNat_le.mpr (hle a (List.mem_cons_self ..))
      · rcases List.mem_cons.mp hm with e | e
        · exact .inl (by rw [e])
        · exact .inr (List.mem_map.mpr ⟨_, e, rfl⟩)
    rw [this]
theorem abl_one {L : List Sm} {i : Nat} (h1 : gG L i = 1) : (abl L i).isEmpty = true := by
  rw [List.isEmpty_iff]
  unfold abl
  rw [List.filter_eq_nil_iff]
  intro k hk z
  have := List.mem_range'_1.mp hk
  rw [h1] at z
  have := Nat.dvd_one.mp (of_decide_eq_true z)
  omega
theorem c18_ok {dr : List Int} (n : Nat) (sc : D) {m : Nat} {L : List Sm} (h : GL m L) {most : Int} (DD : List (D × D)) {i : Nat} (hi : i < m) (x2 x7 x12 x13 x14 x15 x17 x18 x19 x20 x21 : Option (D × Bool)) : fLc [18] (itR (aCons (svO (fC (.int 2))) (aCons (svO (fC (.int 40))) (aNil))) range2D) (gN 18) (tB1 (f2 (toO (fN (aCons (toO (fLc [19] (itV (toV (f2 (fSlot 5) (fSlot 6) dIxA))) (gN 19) (tTrue) (toV (f2 (fSlot 19) (toO (f2 (toO (f2 (fSlot 19) (fSlot 18) (isI iDiv))) (fSlot 18) (isI iMul))) (isI iSub))))) (aNil)) dLenSet)) (svO (fC (.int 1))) (dEq))) (fName 18) [some (sc, .sh), some (eW dr n, .own), jk x2, some (eL m L, .sh), some (.list (NM m), .sh), some (.dict (TO m L), .own), some (.str (nm i), .sh), jk x7, some (.list ((stl m L).map fun i => .str (nm i)), .sh), some (.int most, .sh), some (.list (((rg m).filter (cF L most)).map fun i => .str (nm i)), .sh), some (.list (orT m L (rg m)), .own), jk x12, jk x13, jk x14, jk x15, some (.dict (DD), .own), jk x17, jk x18, jk x19, jk x20, jk x21] = some (.list ((abl L i).map iD), true, [some (sc, .sh), some (eW dr n, .own), jk x2, some (eL m L, .sh), some (.list (NM m), .sh), some (.dict (TO m L), .own), some (.str (nm i), .sh), jk x7, some (.list ((stl m L).map fun i => .str (nm i)), .sh), some (.int most, .sh), some (.list (((rg m).filter (cF L most)).map fun i => .str (nm i)), .sh), some (.list (orT m L (rg m)), .own), jk x12, jk x13, jk x14, jk x15, some (.dict (DD), .own), jk x17, jk x18, jk x19, jk x20, jk x21]) := by
  have hm := h.m4
  have hl := h.l5
  have h1 := to_get hm L hi
  have cc : ∀ k : Nat, 2 ≤ k → k < 40 → fLc [19] (itV (toV (f2 (fSlot 5) (fSlot 6) dIxA))) (gN 19) (tTrue) (toV (f2 (fSlot 19) (toO (f2 (toO (f2 (fSlot 19) (fSlot 18) (isI iDiv))) (fSlot 18) (isI iMul))) (isI iSub))) [some (sc, .sh), some (eW dr n, .own), jk x2, some (eL m L, .sh), some (.list (NM m), .sh), some (.dict (TO m L), .own), some (.str (nm i), .sh), jk x7, some (.list ((stl m L).map fun i => .str (nm i)), .sh), some (.int most, .sh), some (.list (((rg m).filter (cF L most)).map fun i => .str (nm i)), .sh), some (.list (orT m L (rg m)), .own), jk x12, jk x13, jk x14, jk x15, some (.dict (DD), .own), jk x17, some (.int (k : Int), .sh), jk x19, jk x20, jk x21] = some (.list ((inL L i).map fun z => .int (z - z / (k : Int) * (k : Int))), true, [some (sc, .sh), some (eW dr n, .own), jk x2, some (eL m L, .sh), some (.list (NM m), .sh), some (.dict (TO m L), .own), some (.str (nm i), .sh), jk x7, some (.list ((stl m L).map fun i => .str (nm i)), .sh), some (.int most, .sh), some (.list (((rg m).filter (cF L most)).map fun i => .str (nm i)), .sh), some (.list (orT m L (rg m)), .own), jk x12, jk x13, jk x14, jk x15, some (.dict (DD), .own), jk x17, some (.int (k : Int), .sh), jk x19, jk x20, jk x21]) := fun k k2 k4 => by
    refine (fLc_typ .int (inL L i) (fun _ => true) (fun z => .int (z - z / (k : Int) * (k : Int))) (en1 := [some (sc, .sh), some (eW dr n, .own), jk x2, some (eL m L, .sh), some (.list (NM m), .sh), some (.dict (TO m L), .own), some (.str (nm i), .sh), jk x7, some (.list ((stl m L).map fun i => .str (nm i)), .sh), some (.int most, .sh), some (.list (((rg m).filter (cF L most)).map fun i => .str (nm i)), .sh), some (.list (orT m L (rg m)), .own), jk x12, jk x13, jk x14, jk x15, some (.dict (DD), .own), jk x17, some (.int (k : Int), .sh), jk x19, jk x20, jk x21]) ?_ rfl rfl (by rw [sl_ok, inL_len]; omega) (fun z hz => ?_)).trans (by rw [filt_true]; rfl)
    · rw [e_itV]
      generalize TO m L = DT at *
      simp [h1]
    · have hk0 : (0 : Int) < (k : Int) := by omega
      have hkn : 0 < k := by omega
      have hka : k < 18446744073709551616 := by omega
      have hkc : (k : Int) < 1073741824 := by omega
      generalize eL m L = S2 at *
      generalize TO m L = DT at *
      generalize (stl m L).map (fun i => PyData.str (nm i)) = ST8 at *
      generalize ((rg m).filter (cF L most)).map (fun i => PyData.str (nm i)) = ST10 at *
      generalize orT m L (rg m) = OT at *
      refine ⟨[some (sc, .sh), some (eW dr n, .own), jk x2, some (S2, .sh), some (.list (NM m), .sh), some (.dict (DT), .own), some (.str (nm i), .sh), jk x7, some (.list ST8, .sh), some (.int most, .sh), some (.list ST10, .sh), some (.list OT, .own), jk x12, jk x13, jk x14, jk x15, some (.dict (DD), .own), jk x17, some (.int (k : Int), .sh), some (.int z, .sh), jk x20, jk x21], ?_, ?_, fun _ => ?_, rfl⟩
      · simp [wipeE]
      · simp
      · simp [iDiv, hk0, hkn, hka, hkc]
  refine (fLc_typ iD (List.range' 2 38) (fun k => decide (k ∣ gG L i)) iD (en1 := [some (sc, .sh), some (eW dr n, .own), jk x2, some (eL m L, .sh), some (.list (NM m), .sh), some (.dict (TO m L), .own), some (.str (nm i), .sh), jk x7, some (.list ((stl m L).map fun i => .str (nm i)), .sh), some (.int most, .sh), some (.list (((rg m).filter (cF L most)).map fun i => .str (nm i)), .sh), some (.list (orT m L (rg m)), .own), jk x12, jk x13, jk x14, jk x15, some (.dict (DD), .own), jk x17, jk x18, jk x19, jk x20, jk x21]) ?_ rfl rfl (by rw [sl_ok]; simp) (fun k hk => ?_)).trans rfl
  · exact itR_s (hs := [.sv (.int 2), .sv (.int 40)]) (ds := [.int ((2 : Nat) : Int), .int ((40 : Nat) : Int)]) (by simp) rfl (range2_i (by omega) (by omega))
  · have hk2 := List.mem_range'_1.mp hk
    have c1 := cc k hk2.1 (by omega)
    have e : ((inL L i).map fun z => PyData.int (z - z / (k : Int) * (k : Int))) = ((inL L i).map fun z => z - z / (k : Int) * (k : Int)).map .int := by rw [List.map_map]; rfl
    have c2 := lenSet_ints (is := (inL L i).map fun z => z - z / (k : Int) * (k : Int)) (by rw [List.length_map, inL_len]; omega)
    rw [e] at c1
    have c3 := rest_iff h i (k := k) (by omega)
    rw [← c3]
    generalize ((inL L i).map fun z => z - z / (k : Int) * (k : Int)) = RI at *
    generalize RI.map PyData.int = RD at *
    generalize eL m L = S2 at *
    generalize TO m L = DT at *
    generalize (stl m L).map (fun i => PyData.str (nm i)) = ST8 at *
    generalize ((rg m).filter (cF L most)).map (fun i => PyData.str (nm i)) = ST10 at *
    generalize orT m L (rg m) = OT at *
    refine ⟨[some (sc, .sh), some (eW dr n, .own), jk x2, some (S2, .sh), some (.list (NM m), .sh), some (.dict (DT), .own), some (.str (nm i), .sh), jk x7, some (.list ST8, .sh), some (.int most, .sh), some (.list ST10, .sh), some (.list OT, .own), jk x12, jk x13, jk x14, jk x15, some (.dict (DD), .own), jk x17, some (.int (k : Int), .sh), jk x19, jk x20, jk x21], ?_, ?_, fun _ => ?_, rfl⟩
    · simp [wipeE, iD]
    · simp [c1, c2, dEq_int]
    · simp [iD]
end Hd
namespace Hd
open PySem PySem.Spec L2 Fx

theorem due_ok {dr : List Int} (n : Nat) (sc : D) {m : Nat} {L : List Sm} (h : GL m L) {most : Int} {don : List Nat} {i : Nat} (b4 : B4 don) (hi : i < m) (hn : i ∉ don) (hlen : don.length < 4) (x2 x7 x12 x13 x14 x15 x17 x18 x19 x20 x21 : Option (D × Bool)) : Wp (sSeq (sSet 17 (fLc [18] (itR (aCons (svO (fC (.int 2))) (aCons (svO (fC (.int 40))) (aNil))) range2D) (gN 18) (tB1 (f2 (toO (fN (aCons (toO (fLc [19] (itV (toV (f2 (fSlot 5) (fSlot 6) dIxA))) (gN 19) (tTrue) (toV (f2 (fSlot 19) (toO (f2 (toO (f2 (fSlot 19) (fSlot 18) (isI iDiv))) (fSlot 18) (isI iMul))) (isI iSub))))) (aNil)) dLenSet)) (svO (fC (.int 1))) (dEq))) (fName 18))) (sIf (tAndF (tB1 (f2 (fSlot 6) (fSlot 8) (dNotIn))) (tB1 (f2 (fSlot 17) (toO (fLst (lNil))) (dNe)))) (sSeq (sSet 18 (fN (aCons (fSlot 17) (aNil)) (dPick PySem.W.maxD))) (sAsg (fTup (lCons (fName 18) (lCons (toV (f2 (toO (f2 (toO (f2 (fSlot 5) (fSlot 6) dIxA)) (svO (fC (.int 0))) dIxA)) (toO (f2 (toO (f2 (toO (f2 (toO (f2 (fSlot 5) (fSlot 6) dIxA)) (svO (fC (.int 0))) dIxA)) (fSlot 18) (isI iDiv))) (fSlot 18) (isI iMul))) (isI iSub))) (lNil)))) (gSubD 16 (fName 6)))) (sNx)) [some (sc, .sh), some (eW dr n, .own), jk x2, some (eL m L, .sh), some (.list (NM m), .sh), some (.dict (TO m L), .own), some (.str (nm i), .sh), jk x7, some (.list ((stl m L).map fun i => .str (nm i)), .sh), some (.int most, .sh), some (.list (((rg m).filter (cF L most)).map fun i => .str (nm i)), .sh), some (.list (orT m L (rg m)), .own), jk x12, jk x13, jk x14, jk x15, some (.dict (dN (gT_ L) (don.filter (cT L))), .own), jk x17, jk x18, jk x19, jk x20, jk x21]) fun y => y.1 = .nx ∧ ∃ x17 x18 : Option (D × Bool), y.2 = [some (sc, .sh), some (eW dr n, .own), jk x2, some (eL m L, .sh), some (.list (NM m), .sh), some (.dict (TO m L), .own), some (.str (nm i), .sh), jk x7, some (.list ((stl m L).map fun i => .str (nm i)), .sh), some (.int most, .sh), some (.list (((rg m).filter (cF L most)).map fun i => .str (nm i)), .sh), some (.list (orT m L (rg m)), .own), jk x12, jk x13, jk x14, jk x15, some (.dict (dN (gT_ L) ((don ++ [i]).filter (cT L))), .own), jk x17, jk x18, jk x19, jk x20, jk x21] := by
  have hm := h.m4
  have hl := h.l5
  have hc := c18_ok (dr := dr) n sc h (most := most) (dN (gT_ L) (don.filter (cT L))) hi x2 x7 x12 x13 x14 x15 x17 x18 x19 x20 x21
  have hdg := to_get hm L hi
  have h0 : (inL L i).map PyData.int = .int (hd0 L i) :: (inL L.tail i).map .int := by
    obtain ⟨f, r, rfl, e⟩ := h.cons
    rw [e]
    rfl
  have hs := dNi_stl h hi
  have hne := dNe_nl (abl L i)
  have b4' : B4 (don.filter (cT L)) := fun j hj => b4 j (List.mem_filter.mp hj).1
  have pn := put_new (gT_ L) b4' (by omega : i < 4) (fun z => hn (List.mem_filter.mp z).1)
  have hz : (dN (gT_ L) (don.filter (cT L))).length < 16777216 := by
    rw [dN_len]
    have := List.length_filter_le (cT L) don
    omega
  have hcd : cT L i = decide (1 < gG L i) := rfl
  have hgt : gT_ L i = .tuple [.int (gG L i : Nat), .int (hd0 L i % (gG L i : Nat))] := rfl
  have hgl := fun z => gG_le h hi z
  rw [List.filter_append]
  rw [hgt] at pn
  by_cases c1 : 1 < gG L i
  · obtain ⟨hmx, hem⟩ := max_abl c1 (hgl (by omega))
    have g39 := hgl (by omega)
    rw [hem] at hne
    have hg0 : decide (gG L i = 0) = false := by simp; omega
    rw [hg0] at hs
    have hmod : hd0 L i - hd0 L i / (gG L i : Nat) * (gG L i : Nat) = hd0 L i % (gG L i : Nat) := by rw [Int.emod_def, Int.mul_comm]
    have hf : [i].filter (cT L) = [i] := by simp [hcd, c1]
    have pn2 : dN (gT_ L) (don.filter (cT L) ++ [i].filter (cT L)) = Fx.dictPut (dN (gT_ L) (don.filter (cT L))) (.inr (nm i)) (.tuple [.int (gG L i : Nat), .int (hd0 L i % (gG L i : Nat))]) := by rw [hf, pn]
    rw [pn2]
    clear pn pn2 hcd hgt b4' hf
    rw [h0] at hdg
    generalize (dN (gT_ L) (don.filter (cT L))) = DN at *
    generalize (abl L i).map iD = AL at *
    generalize gG L i = G at *
    have hG0 : (0 : Int) < (G : Int) := by omega
    have hGn : 0 < G := by omega
    have hGa : G < 18446744073709551616 := by omega
    have hGc : (G : Int) < 1073741824 := by omega
    generalize eL m L = S2 at *
    generalize TO m L = DT at *
    generalize (stl m L).map (fun i => PyData.str (nm i)) = ST8 at *
    generalize ((rg m).filter (cF L most)).map (fun i => PyData.str (nm i)) = ST10 at *
    generalize orT m L (rg m) = OT at *
    rw [wp_sSeq]
    refine wp_of (y := (Out.nx, ([some (sc, .sh), some (eW dr n, .own), jk x2, some (S2, .sh), some (.list (NM m), .sh), some (.dict (DT), .own), some (.str (nm i), .sh), jk x7, some (.list ST8, .sh), some (.int most, .sh), some (.list ST10, .sh), some (.list OT, .own), jk x12, jk x13, jk x14, jk x15, some (.dict (DN), .own), some (.list AL, .own), jk x18, jk x19, jk x20, jk x21] : En))) (by simp [hc]) ?_
    refine later_i ?_
    refine wp_of (y := (Out.nx, ([some (sc, .sh), some (eW dr n, .own), jk x2, some (S2, .sh), some (.list (NM m), .sh), some (.dict (DT), .own), some (.str (nm i), .sh), jk x7, some (.list ST8, .sh), some (.int most, .sh), some (.list ST10, .sh), some (.list OT, .own), jk x12, jk x13, jk x14, jk x15, some (.dict (Fx.dictPut DN (.inr (nm i)) (.tuple [.int (G : Nat), .int (hd0 L i % (G : Nat))])), .own), some (.list AL, .own), some (.int (G : Nat), .sh), jk x19, jk x20, jk x21] : En))) ?_ ?_
    · rw [← hmod]
      refine wp_val ?_
      simp [hs, hne, hmx]
      refine later_i ?_
      simp [hdg, iDiv, hG0, hGn, hGa, hGc, hz]
    · exact ⟨rfl, some (.list AL, true), some (.int (G : Nat), false), rfl⟩
  · have hf : [i].filter (cT L) = [] := by simp [hcd, c1]
    rw [hf, List.append_nil]
    have hcond : gG L i = 0 ∨ (abl L i).isEmpty = true := by
      rcases (show gG L i = 0 ∨ gG L i = 1 by omega) with e | e
      · exact .inl e
      · exact .inr (abl_one e)
    clear pn hcd hgt b4'
    generalize (dN (gT_ L) (don.filter (cT L))) = DN at *
    generalize (abl L i).isEmpty = em at *
    generalize (abl L i).map iD = AL at *
    generalize gG L i = G at *
    generalize eL m L = S2 at *
    generalize TO m L = DT at *
    generalize (stl m L).map (fun i => PyData.str (nm i)) = ST8 at *
    generalize ((rg m).filter (cF L most)).map (fun i => PyData.str (nm i)) = ST10 at *
    generalize orT m L (rg m) = OT at *
    rw [wp_sSeq]
    refine wp_of (y := (Out.nx, ([some (sc, .sh), some (eW dr n, .own), jk x2, some (S2, .sh), some (.list (NM m), .sh), some (.dict (DT), .own), some (.str (nm i), .sh), jk x7, some (.list ST8, .sh), some (.int most, .sh), some (.list ST10, .sh), some (.list OT, .own), jk x12, jk x13, jk x14, jk x15, some (.dict (DN), .own), some (.list AL, .own), jk x18, jk x19, jk x20, jk x21] : En))) (by simp [hc]) ?_
    refine later_i ?_
    refine wp_of (y := (Out.nx, ([some (sc, .sh), some (eW dr n, .own), jk x2, some (S2, .sh), some (.list (NM m), .sh), some (.dict (DT), .own), some (.str (nm i), .sh), jk x7, some (.list ST8, .sh), some (.int most, .sh), some (.list ST10, .sh), some (.list OT, .own), jk x12, jk x13, jk x14, jk x15, some (.dict (DN), .own), some (.list AL, .own), jk x18, jk x19, jk x20, jk x21] : En))) ?_ ⟨rfl, some (.list AL, true), x18, rfl⟩
    by_cases z0 : G = 0
    · subst z0
      simp at hs
      simp [hs]
    · have em1 := hcond.resolve_left z0
      subst em1
      simp [z0] at hs
      simp at hne
      simp [hs, hne]
end Hd
namespace Hd
open PySem PySem.Spec L2 Fx

def IDu (dr : List Int) (n : Nat) (sc : D) (m : Nat) (L : List Sm) (most : Int) (x2 x7 x12 x13 x14 x15 x19 x20 x21 : Option (D × Bool)) (ds : List D) (en : En) : Prop := ∃ (don rest : List Nat) (x6 x17 x18 : Option (D × Bool)), don ++ rest = rg m ∧ ds = (rest.map fun i => .str (nm i)) ∧ en = [some (sc, .sh), some (eW dr n, .own), jk x2, some (eL m L, .sh), some (.list (NM m), .sh), some (.dict (TO m L), .own), jk x6, jk x7, some (.list ((stl m L).map fun i => .str (nm i)), .sh), some (.int most, .sh), some (.list (((rg m).filter (cF L most)).map fun i => .str (nm i)), .sh), some (.list (orT m L (rg m)), .own), jk x12, jk x13, jk x14, jk x15, some (.dict (dN (gT_ L) (don.filter (cT L))), .own), jk x17, jk x18, jk x19, jk x20, jk x21]
theorem t14 {dr : List Int} (n : Nat) (sc : D) {m : Nat} {L : List Sm} (h : GL m L) {most : Int} (x2 x6 x7 x12 x13 x14 x15 x17 x18 x19 x20 x21 : Option (D × Bool)) : Wp (sFor (itV (fName 4)) (gN 6) (sSeq (sSet 17 (fLc [18] (itR (aCons (svO (fC (.int 2))) (aCons (svO (fC (.int 40))) (aNil))) range2D) (gN 18) (tB1 (f2 (toO (fN (aCons (toO (fLc [19] (itV (toV (f2 (fSlot 5) (fSlot 6) dIxA))) (gN 19) (tTrue) (toV (f2 (fSlot 19) (toO (f2 (toO (f2 (fSlot 19) (fSlot 18) (isI iDiv))) (fSlot 18) (isI iMul))) (isI iSub))))) (aNil)) dLenSet)) (svO (fC (.int 1))) (dEq))) (fName 18))) (sIf (tAndF (tB1 (f2 (fSlot 6) (fSlot 8) (dNotIn))) (tB1 (f2 (fSlot 17) (toO (fLst (lNil))) (dNe)))) (sSeq (sSet 18 (fN (aCons (fSlot 17) (aNil)) (dPick PySem.W.maxD))) (sAsg (fTup (lCons (fName 18) (lCons (toV (f2 (toO (f2 (toO (f2 (fSlot 5) (fSlot 6) dIxA)) (svO (fC (.int 0))) dIxA)) (toO (f2 (toO (f2 (toO (f2 (toO (f2 (fSlot 5) (fSlot 6) dIxA)) (svO (fC (.int 0))) dIxA)) (fSlot 18) (isI iDiv))) (fSlot 18) (isI iMul))) (isI iSub))) (lNil)))) (gSubD 16 (fName 6)))) (sNx))) [some (sc, .sh), some (eW dr n, .own), jk x2, some (eL m L, .sh), some (.list (NM m), .sh), some (.dict (TO m L), .own), jk x6, jk x7, some (.list ((stl m L).map fun i => .str (nm i)), .sh), some (.int most, .sh), some (.list (((rg m).filter (cF L most)).map fun i => .str (nm i)), .sh), some (.list (orT m L (rg m)), .own), jk x12, jk x13, jk x14, jk x15, some (.dict ([]), .own), jk x17, jk x18, jk x19, jk x20, jk x21]) fun y => y.1 = .nx ∧ ∃ x6 x17 x18 : Option (D × Bool), y.2 = [some (sc, .sh), some (eW dr n, .own), jk x2, some (eL m L, .sh), some (.list (NM m), .sh), some (.dict (TO m L), .own), jk x6, jk x7, some (.list ((stl m L).map fun i => .str (nm i)), .sh), some (.int most, .sh), some (.list (((rg m).filter (cF L most)).map fun i => .str (nm i)), .sh), some (.list (orT m L (rg m)), .own), jk x12, jk x13, jk x14, jk x15, some (.dict (dN (gT_ L) ((rg m).filter (cT L))), .own), jk x17, jk x18, jk x19, jk x20, jk x21] := by
  have hm := h.m4
  rw [wp_sFor, wp_itV]
  refine wp_of (y := (PyData.list (NM m), ([some (sc, .sh), some (eW dr n, .own), jk x2, some (eL m L, .sh), some (.list (NM m), .sh), some (.dict (TO m L), .own), jk x6, jk x7, some (.list ((stl m L).map fun i => .str (nm i)), .sh), some (.int most, .sh), some (.list (((rg m).filter (cF L most)).map fun i => .str (nm i)), .sh), some (.list (orT m L (rg m)), .own), jk x12, jk x13, jk x14, jk x15, some (.dict ([]), .own), jk x17, jk x18, jk x19, jk x20, jk x21] : En))) (by simp) ?_
  refine wp_of (y := NM m) rfl ?_
  refine wp_mono (for_inv (IDu dr n sc m L most x2 x7 x12 x13 x14 x15 x19 x20 x21) (Q := fun y => y.1 = .nx ∧ IDu dr n sc m L most x2 x7 x12 x13 x14 x15 x19 x20 x21 [] y.2) ?_ (fun en h => ⟨rfl, h⟩) _ _ ⟨[], rg m, x6, x17, x18, rfl, rfl, rfl⟩) ?_
  · rintro d r en ⟨don, rest, x6, x17, x18, hr, hds, rfl⟩
    cases rest with
    | nil => cases hds
    | cons i rest =>
      obtain ⟨rfl, rfl⟩ := List.cons.inj hds
      obtain ⟨b4, hi, hn, hlen⟩ := don_new hm hr
      refine wp_of (y := ([some (sc, .sh), some (eW dr n, .own), jk x2, some (eL m L, .sh), some (.list (NM m), .sh), some (.dict (TO m L), .own), some (.str (nm i), .sh), jk x7, some (.list ((stl m L).map fun i => .str (nm i)), .sh), some (.int most, .sh), some (.list (((rg m).filter (cF L most)).map fun i => .str (nm i)), .sh), some (.list (orT m L (rg m)), .own), jk x12, jk x13, jk x14, jk x15, some (.dict (dN (gT_ L) (don.filter (cT L))), .own), jk x17, jk x18, jk x19, jk x20, jk x21] : En)) (by simp) ?_
      refine wp_mono (due_ok (dr := dr) n sc h (most := most) b4 hi hn hlen x2 x7 x12 x13 x14 x15 x17 x18 x19 x20 x21) ?_
      rintro ⟨o, en⟩ ⟨rfl, x17, x18, rfl⟩
      exact ⟨don ++ [i], rest, some (.str (nm i), false), x17, x18, by rw [List.append_assoc]; exact hr, rfl, rfl⟩
  · rintro ⟨o, en⟩ ⟨rfl, don, rest, x6, x17, x18, hr, hds, rfl⟩
    cases rest with
    | cons j rest => cases hds
    | nil =>
      rw [List.append_nil] at hr
      subst hr
      exact ⟨rfl, x6, x17, x18, rfl⟩
theorem t15 {dr : List Int} (n : Nat) (sc : D) {m : Nat} {L : List Sm} (h : GL m L) {most : Int} (x2 x6 x7 x12 x13 x14 x15 x17 x18 x19 x20 x21 : Option (D × Bool)) : sIf (tNotF (tB1 (fCallL 2 (aCons (toO (fCall 1 (lCons (fName 3) (lNil)) F_rests)) (aCons (fSlot 16) (aNil))) F__law_same_dict))) (sRet (ofV (fC (.bool false)))) (sNx) [some (sc, .sh), some (eW dr n, .own), jk x2, some (eL m L, .sh), some (.list (NM m), .sh), some (.dict (TO m L), .own), jk x6, jk x7, some (.list ((stl m L).map fun i => .str (nm i)), .sh), some (.int most, .sh), some (.list (((rg m).filter (cF L most)).map fun i => .str (nm i)), .sh), some (.list (orT m L (rg m)), .own), jk x12, jk x13, jk x14, jk x15, some (.dict (dN (gT_ L) ((rg m).filter (cT L))), .own), jk x17, jk x18, jk x19, jk x20, jk x21] = some (.nx, [some (sc, .sh), some (eW dr n, .own), jk x2, some (eL m L, .sh), some (.list (NM m), .sh), some (.dict (TO m L), .own), jk x6, jk x7, some (.list ((stl m L).map fun i => .str (nm i)), .sh), some (.int most, .sh), some (.list (((rg m).filter (cF L most)).map fun i => .str (nm i)), .sh), some (.list (orT m L (rg m)), .own), jk x12, jk x13, jk x14, jk x15, some (.dict (dN (gT_ L) ((rg m).filter (cT L))), .own), jk x17, jk x18, jk x19, jk x20, jk x21]) := by
  have hm := h.m4
  have hc := rests_ok h
  have hle : ((rg m).filter (cT L)).length ≤ 4 := Nat.le_trans (List.length_filter_le _ _) (by rw [rg_len]; exact hm)
  have sd := same_dict (g := gT_ L) (h.b4 (cT L)) hle (fun i _ => .tup (fun d hd => by
    simp only [List.mem_cons, List.not_mem_nil, or_false] at hd
    rcases hd with rfl | rfl
    · exact .int _
    · exact .int _) (by simp))
  generalize F_rests = A1 at *
  generalize F__law_same_dict = A2 at *
  generalize dN (gT_ L) ((rg m).filter (cT L)) = DN at *
  generalize eL m L = S2 at *
  generalize TO m L = DT at *
  generalize (stl m L).map (fun i => PyData.str (nm i)) = ST8 at *
  generalize ((rg m).filter (cF L most)).map (fun i => PyData.str (nm i)) = ST10 at *
  generalize orT m L (rg m) = OT at *
  simp [hc, sd]
end Hd
namespace Hd
open PySem PySem.Spec L2 Fx

theorem d_DA (x : Option (D × Fl)) (en : En) : fDisp (lCons (fC (.str "a")) (lCons (fC (.int 1)) (lNil))) (x :: en) = some (.dict [(.str (nm 0), .int 1)], true, x :: en) := by kernel_rfl
theorem d_DB (x : Option (D × Fl)) (en : En) : fDisp (lCons (fC (.str "A")) (lCons (fC (.int 1)) (lNil))) (x :: en) = some (.dict [(.str (Str.ofString "A"), .int 1)], true, x :: en) := by kernel_rfl
theorem d_DC (x : Option (D × Fl)) (en : En) : fDisp (lCons (fC (.str "a")) (lCons (fC (.str "1")) (lNil))) (x :: en) = some (.dict [(.str (nm 0), .str (Str.ofString "1"))], true, x :: en) := by kernel_rfl
theorem d_DD (x : Option (D × Fl)) (en : En) : fDisp (lCons (fC (.int 1)) (lCons (fC (.int 1)) (lNil))) (x :: en) = some (.dict [(.int 1, .int 1)], true, x :: en) := by kernel_rfl
theorem d_DE (x : Option (D × Fl)) (en : En) : fDisp (lCons (fC (.str "")) (lCons (fC (.int 0)) (lNil))) (x :: en) = some (.dict [(.str (Str.ofString ""), .int 0)], true, x :: en) := by kernel_rfl

def VL (m : Nat) (L : List Sm) : List D := [eL m L, eT m (hd0 L), .tuple [], .none, .list (L.map (eT m)), .tuple (L.map (eT m) ++ [.dict [(.str (nm 0), .int 1)]]), .tuple (L.map (eT m) ++ [.dict []]), .tuple (L.map (eT m) ++ [.dict (dN (fun _ => .bool true) (rg m))])]
def VW (m : Nat) (L : List Sm) : List D := [.tuple [.dict [(.str (Str.ofString "A"), .int 1)]], .tuple [.dict [(.str (nm 0), .str (Str.ofString "1"))]], .tuple [.dict []], .tuple [.dict [(.int 1, .int 1)]], .tuple [.dict [(.str (Str.ofString ""), .int 0)]], .tuple ((L.map (eT m)).take 1)]
theorem t16 {dr : List Int} (n : Nat) (sc : D) {m : Nat} {L : List Sm} (h : GL m L) {most : Int} (x2 x6 x7 x12 x13 x14 x15 x17 x18 x19 x20 x21 : Option (D × Bool)) : sSet 20 (fLst (lCons (fName 3) (lCons (toV (f2 (fSlot 3) (svO (fC (.int 0))) dIxA)) (lCons (fTup (lNil)) (lCons (fC .none) (lCons (toV (fN (aCons (fSlot 3) (aNil)) dList)) (lCons (toV (f2 (fSlot 3) (svO (fTup (lCons (toV (fDisp (lCons (fC (.str "a")) (lCons (fC (.int 1)) (lNil))))) (lNil)))) (dAdd))) (lCons (toV (f2 (fSlot 3) (svO (fTup (lCons (toV (fun en => some (.dict [], true, en))) (lNil)))) (dAdd))) (lCons (toV (f2 (fSlot 3) (svO (fTup (lCons (toV (fN (aCons (toO (fLc [6] (itV (fName 4)) (gN 6) (tTrue) (fTup (lCons (fName 6) (lCons (fC (.bool true)) (lNil)))))) (aNil)) dDict)) (lNil)))) (dAdd))) (lNil)))))))))) [some (sc, .sh), some (eW dr n, .own), jk x2, some (eL m L, .sh), some (.list (NM m), .sh), some (.dict (TO m L), .own), jk x6, jk x7, some (.list ((stl m L).map fun i => .str (nm i)), .sh), some (.int most, .sh), some (.list (((rg m).filter (cF L most)).map fun i => .str (nm i)), .sh), some (.list (orT m L (rg m)), .own), jk x12, jk x13, jk x14, jk x15, some (.dict (dN (gT_ L) ((rg m).filter (cT L))), .own), jk x17, jk x18, jk x19, jk x20, jk x21] = some (.nx, [some (sc, .sh), some (eW dr n, .own), jk x2, some (eL m L, .sh), some (.list (NM m), .sh), some (.dict (TO m L), .own), jk x6, jk x7, some (.list ((stl m L).map fun i => .str (nm i)), .sh), some (.int most, .sh), some (.list (((rg m).filter (cF L most)).map fun i => .str (nm i)), .sh), some (.list (orT m L (rg m)), .own), jk x12, jk x13, jk x14, jk x15, some (.dict (dN (gT_ L) ((rg m).filter (cT L))), .own), jk x17, jk x18, jk x19, some (.list (VL m L), .own), jk x21]) := by
  have hm := h.m4
  have hl : (L.map (eT m)).length ≤ 5 := by rw [List.length_map]; exact h.l5
  have e0 := eL_0 h
  have hd := dDict_names (fun _ => .bool true) (rg_nd m fun _ => true) (fun i hi => Nat.lt_of_lt_of_le (rg_lt (List.mem_filter.mp hi).1) h.m4)
  rw [filt_true] at hd
  have lc : fLc [6] (itV (fName 4)) (gN 6) (tTrue) (fTup (lCons (fName 6) (lCons (fC (.bool true)) (lNil)))) [some (sc, .sh), some (eW dr n, .own), jk x2, some (eL m L, .sh), some (.list (NM m), .sh), some (.dict (TO m L), .own), jk x6, jk x7, some (.list ((stl m L).map fun i => .str (nm i)), .sh), some (.int most, .sh), some (.list (((rg m).filter (cF L most)).map fun i => .str (nm i)), .sh), some (.list (orT m L (rg m)), .own), jk x12, jk x13, jk x14, jk x15, some (.dict (dN (gT_ L) ((rg m).filter (cT L))), .own), jk x17, jk x18, jk x19, jk x20, jk x21] = some (.list ((rg m).map fun i => PyData.tuple [.str (nm i), .bool true]), true, [some (sc, .sh), some (eW dr n, .own), jk x2, some (eL m L, .sh), some (.list (NM m), .sh), some (.dict (TO m L), .own), jk x6, jk x7, some (.list ((stl m L).map fun i => .str (nm i)), .sh), some (.int most, .sh), some (.list (((rg m).filter (cF L most)).map fun i => .str (nm i)), .sh), some (.list (orT m L (rg m)), .own), jk x12, jk x13, jk x14, jk x15, some (.dict (dN (gT_ L) ((rg m).filter (cT L))), .own), jk x17, jk x18, jk x19, jk x20, jk x21]) := by
    generalize dN (gT_ L) ((rg m).filter (cT L)) = DN at *
    generalize eL m L = S2 at *
    generalize TO m L = DT at *
    generalize (stl m L).map (fun i => PyData.str (nm i)) = ST8 at *
    generalize ((rg m).filter (cF L most)).map (fun i => PyData.str (nm i)) = ST10 at *
    generalize orT m L (rg m) = OT at *
    refine (fLc_typ (fun i => .str (nm i)) (rg m) (fun _ => true) (fun i => .tuple [.str (nm i), .bool true]) (en1 := [some (sc, .sh), some (eW dr n, .own), jk x2, some (S2, .sh), some (.list (NM m), .sh), some (.dict (DT), .own), jk x6, jk x7, some (.list ST8, .sh), some (.int most, .sh), some (.list ST10, .sh), some (.list OT, .own), jk x12, jk x13, jk x14, jk x15, some (.dict (DN), .own), jk x17, jk x18, jk x19, jk x20, jk x21]) ?_ rfl rfl (by rw [sl_ok, rg_len]; omega) (fun i hi => ?_)).trans (by rw [filt_true]; rfl)
    · rw [e_itV]
      simp [NM]
    · refine ⟨[some (sc, .sh), some (eW dr n, .own), jk x2, some (S2, .sh), some (.list (NM m), .sh), some (.dict (DT), .own), some (.str (nm i), .sh), jk x7, some (.list ST8, .sh), some (.int most, .sh), some (.list ST10, .sh), some (.list OT, .own), jk x12, jk x13, jk x14, jk x15, some (.dict (DN), .own), jk x17, jk x18, jk x19, jk x20, jk x21], ?_, ?_, fun _ => ?_, rfl⟩
      · simp [wipeE]
      · simp
      · simp
  unfold VL
  have d1 := d_DA
  generalize fDisp (lCons (fC (.str "a")) (lCons (fC (.int 1)) (lNil))) = DA at *
  generalize fLc [6] (itV (fName 4)) (gN 6) (tTrue) (fTup (lCons (fName 6) (lCons (fC (.bool true)) (lNil)))) = C6 at *
  generalize ((rg m).map fun i => PyData.tuple [.str (nm i), .bool true]) = NB at *
  generalize hz : dN (fun _ => PyData.bool true) (rg m) = DB at *
  generalize dN (gT_ L) ((rg m).filter (cT L)) = DN at *
  generalize TO m L = DT at *
  generalize (stl m L).map (fun i => PyData.str (nm i)) = ST8 at *
  generalize ((rg m).filter (cF L most)).map (fun i => PyData.str (nm i)) = ST10 at *
  generalize orT m L (rg m) = OT at *
  generalize NM m = Q4 at *
  have he : eL m L = .tuple (L.map (eT m)) := rfl
  rw [he] at e0 lc ⊢
  generalize eT m (hd0 L) = S0 at *
  generalize L.map (eT m) = LL at *
  have h1 : LL.length + 1 ≤ 16777216 := by omega
  have h2 : LL.length ≤ 16777216 := by omega
  have h3 : LL.length < 16777216 := by omega
  simp [lc, d1, hd, e0, h1, h2, h3]
end Hd
namespace Hd
open PySem PySem.Spec L2 Fx

theorem vls {m : Nat} {L : List Sm} (h : GL m L) : ∀ d ∈ VL m L ++ VW m L, VG d := by
  have hm := h.m4
  have ek1 : ∀ g : Nat → D, (∀ i, Vl (g i)) → EK (dN g [0]) := fun g hg => ek_dN (fun i hi => by rw [List.mem_singleton.mp hi]; omega) (fun i _ => hg i) (by simp)
  have eke : EK [] := ek_dN (g := fun _ => .none) (ks := []) (fun i hi => by cases hi) (fun i hi => by cases hi) (by simp)
  have ekb : EK (dN (fun _ => .bool true) (rg m)) := ek_dN (fun i hi => Nat.lt_of_lt_of_le (rg_lt hi) hm) (fun i _ => .inr (.inl ⟨_, rfl⟩)) (by rw [rg_len]; omega)
  have v0 : VG (eL m L) := by
    have := vg_L hm h.l1 h.l5 [] (by simp) (fun es hes => by cases hes)
    rw [List.map_nil, List.append_nil] at this
    exact this
  have v5 := vg_L hm h.l1 h.l5 [dN (fun _ => .int 1) [0]] (by simp) (fun es hes => by rw [List.mem_singleton.mp hes]; exact ek1 _ fun i => .inl ⟨_, rfl⟩)
  have v6 := vg_L hm h.l1 h.l5 [[]] (by simp) (fun es hes => by rw [List.mem_singleton.mp hes]; exact eke)
  have v7 := vg_L hm h.l1 h.l5 [dN (fun _ => .bool true) (rg m)] (by simp) (fun es hes => by rw [List.mem_singleton.mp hes]; exact ekb)
  have vt : VG (.tuple ((L.map (eT m)).take 1)) := by
    obtain ⟨f, r, e, _⟩ := h.cons
    have := vg_L hm (L := [f]) (by simp) (by simp) [] (by simp) (fun es hes => by cases hes)
    rw [e]
    exact this
  intro d hd
  rcases List.mem_append.mp hd with hd | hd
  · unfold VL at hd
    simp only [List.mem_cons, List.not_mem_nil, or_false] at hd
    rcases hd with rfl | rfl | rfl | rfl | rfl | rfl | rfl | rfl
    · exact v0
    · exact vg_no rfl
    · exact vg_nil
    · exact vg_no rfl
    · exact vg_no rfl
    · exact v5
    · exact v6
    · exact v7
  · unfold VW at hd
    simp only [List.mem_cons, List.not_mem_nil, or_false] at hd
    rcases hd with rfl | rfl | rfl | rfl | rfl | rfl
    · exact vg_A
    · exact vg_a1
    · exact vg_e
    · exact vg_1
    · exact vg_0
    · exact vt
theorem vg_bool {d : D} (h : VG d) : ∃ b : Bool, F_are_samples [d] = some (.bool b, false) ∧ F__law_are [d] = some (.bool b, false) := h
def IVg (dr : List Int) (n : Nat) (sc : D) (m : Nat) (L : List Sm) (most : Int) (x2 x6 x7 x12 x13 x14 x15 x17 x18 x19 : Option (D × Bool)) (ds : List D) (en : En) : Prop := ∃ (x21 : Option (D × Bool)), (∀ d ∈ ds, VG d) ∧ en = [some (sc, .sh), some (eW dr n, .own), jk x2, some (eL m L, .sh), some (.list (NM m), .sh), some (.dict (TO m L), .own), jk x6, jk x7, some (.list ((stl m L).map fun i => .str (nm i)), .sh), some (.int most, .sh), some (.list (((rg m).filter (cF L most)).map fun i => .str (nm i)), .sh), some (.list (orT m L (rg m)), .own), jk x12, jk x13, jk x14, jk x15, some (.dict (dN (gT_ L) ((rg m).filter (cT L))), .own), jk x17, jk x18, jk x19, some (.list (VL m L), .own), jk x21]
theorem t17 {dr : List Int} (n : Nat) (sc : D) {m : Nat} {L : List Sm} (h : GL m L) {most : Int} (x2 x6 x7 x12 x13 x14 x15 x17 x18 x19 x21 : Option (D × Bool)) : Wp (sFor (itV (toV (f2 (fSlot 20) (toO (fLst (lCons (fTup (lCons (toV (fDisp (lCons (fC (.str "A")) (lCons (fC (.int 1)) (lNil))))) (lNil))) (lCons (fTup (lCons (toV (fDisp (lCons (fC (.str "a")) (lCons (fC (.str "1")) (lNil))))) (lNil))) (lCons (fTup (lCons (toV (fun en => some (.dict [], true, en))) (lNil))) (lCons (fTup (lCons (toV (fDisp (lCons (fC (.int 1)) (lCons (fC (.int 1)) (lNil))))) (lNil))) (lCons (fTup (lCons (toV (fDisp (lCons (fC (.str "")) (lCons (fC (.int 0)) (lNil))))) (lNil))) (lCons (toV (fSl (fSlot 3) (pNone) (pInt (svO (fC (.int 1)))) dSl)) (lNil))))))))) (dAdd)))) (gN 21) (sIf (tNotF (tB1 (fCall 2 (lCons (toV (fCall 1 (lCons (fName 21) (lNil)) F_are_samples)) (lCons (toV (fCall 1 (lCons (fName 21) (lNil)) F__law_are)) (lNil))) F__law_says))) (sRet (ofV (fC (.bool false)))) (sNx)) [some (sc, .sh), some (eW dr n, .own), jk x2, some (eL m L, .sh), some (.list (NM m), .sh), some (.dict (TO m L), .own), jk x6, jk x7, some (.list ((stl m L).map fun i => .str (nm i)), .sh), some (.int most, .sh), some (.list (((rg m).filter (cF L most)).map fun i => .str (nm i)), .sh), some (.list (orT m L (rg m)), .own), jk x12, jk x13, jk x14, jk x15, some (.dict (dN (gT_ L) ((rg m).filter (cT L))), .own), jk x17, jk x18, jk x19, some (.list (VL m L), .own), jk x21]) fun y => y.1 = .nx ∧ ∃ x21 : Option (D × Bool), y.2 = [some (sc, .sh), some (eW dr n, .own), jk x2, some (eL m L, .sh), some (.list (NM m), .sh), some (.dict (TO m L), .own), jk x6, jk x7, some (.list ((stl m L).map fun i => .str (nm i)), .sh), some (.int most, .sh), some (.list (((rg m).filter (cF L most)).map fun i => .str (nm i)), .sh), some (.list (orT m L (rg m)), .own), jk x12, jk x13, jk x14, jk x15, some (.dict (dN (gT_ L) ((rg m).filter (cT L))), .own), jk x17, jk x18, jk x19, some (.list (VL m L), .own), jk x21] := by
  have hv := vls h
  rw [wp_sFor, wp_itV]
  refine wp_of (y := (PyData.list (VL m L ++ VW m L), ([some (sc, .sh), some (eW dr n, .own), jk x2, some (eL m L, .sh), some (.list (NM m), .sh), some (.dict (TO m L), .own), jk x6, jk x7, some (.list ((stl m L).map fun i => .str (nm i)), .sh), some (.int most, .sh), some (.list (((rg m).filter (cF L most)).map fun i => .str (nm i)), .sh), some (.list (orT m L (rg m)), .own), jk x12, jk x13, jk x14, jk x15, some (.dict (dN (gT_ L) ((rg m).filter (cT L))), .own), jk x17, jk x18, jk x19, some (.list (VL m L), .own), jk x21] : En))) (by
    unfold VW
    have hl : (VL m L).length = 8 := rfl
    have dDB := d_DB
    have dDC := d_DC
    have dDD := d_DD
    have dDE := d_DE
    generalize fDisp (lCons (fC (.str "A")) (lCons (fC (.int 1)) (lNil))) = DB at *
    generalize fDisp (lCons (fC (.str "a")) (lCons (fC (.str "1")) (lNil))) = DC at *
    generalize fDisp (lCons (fC (.int 1)) (lCons (fC (.int 1)) (lNil))) = DD at *
    generalize fDisp (lCons (fC (.str "")) (lCons (fC (.int 0)) (lNil))) = DE at *
    generalize dN (gT_ L) ((rg m).filter (cT L)) = DN at *
    generalize TO m L = DT at *
    generalize (stl m L).map (fun i => PyData.str (nm i)) = ST8 at *
    generalize ((rg m).filter (cF L most)).map (fun i => PyData.str (nm i)) = ST10 at *
    generalize orT m L (rg m) = OT at *
    generalize NM m = Q4 at *
    have he : eL m L = .tuple (L.map (eT m)) := rfl
    rw [he]
    generalize VL m L = V0 at *
    generalize L.map (eT m) = LL at *
    simp [hl, dDB, dDC, dDD, dDE]) ?_
  refine wp_of (y := VL m L ++ VW m L) rfl ?_
  refine wp_mono (for_inv (IVg dr n sc m L most x2 x6 x7 x12 x13 x14 x15 x17 x18 x19) (Q := fun y => y.1 = .nx ∧ IVg dr n sc m L most x2 x6 x7 x12 x13 x14 x15 x17 x18 x19 [] y.2) ?_ (fun en h => ⟨rfl, h⟩) _ _ ⟨x21, hv, rfl⟩) ?_
  · rintro d r en ⟨x21, hv, rfl⟩
    obtain ⟨b, v1, v2⟩ := vg_bool (hv d (List.mem_cons_self ..))
    refine wp_of (y := ([some (sc, .sh), some (eW dr n, .own), jk x2, some (eL m L, .sh), some (.list (NM m), .sh), some (.dict (TO m L), .own), jk x6, jk x7, some (.list ((stl m L).map fun i => .str (nm i)), .sh), some (.int most, .sh), some (.list (((rg m).filter (cF L most)).map fun i => .str (nm i)), .sh), some (.list (orT m L (rg m)), .own), jk x12, jk x13, jk x14, jk x15, some (.dict (dN (gT_ L) ((rg m).filter (cT L))), .own), jk x17, jk x18, jk x19, some (.list (VL m L), .own), some (d, .sh)] : En)) (by simp) ?_
    refine wp_of (y := (Out.nx, ([some (sc, .sh), some (eW dr n, .own), jk x2, some (eL m L, .sh), some (.list (NM m), .sh), some (.dict (TO m L), .own), jk x6, jk x7, some (.list ((stl m L).map fun i => .str (nm i)), .sh), some (.int most, .sh), some (.list (((rg m).filter (cF L most)).map fun i => .str (nm i)), .sh), some (.list (orT m L (rg m)), .own), jk x12, jk x13, jk x14, jk x15, some (.dict (dN (gT_ L) ((rg m).filter (cT L))), .own), jk x17, jk x18, jk x19, some (.list (VL m L), .own), some (d, .sh)] : En))) (by
      have sy := says_ok b
      generalize F_are_samples = A1 at *
      generalize F__law_are = A2 at *
      generalize F__law_says = A3 at *
      generalize dN (gT_ L) ((rg m).filter (cT L)) = DN at *
      generalize TO m L = DT at *
      generalize (stl m L).map (fun i => PyData.str (nm i)) = ST8 at *
      generalize ((rg m).filter (cF L most)).map (fun i => PyData.str (nm i)) = ST10 at *
      generalize orT m L (rg m) = OT at *
      generalize NM m = Q4 at *
      generalize eL m L = S2 at *
      generalize VL m L = V0 at *
      simp [v1, v2, sy]) ?_
    exact ⟨some (d, false), fun x hx => hv x (List.mem_cons_of_mem _ hx), rfl⟩
  · rintro ⟨o, en⟩ ⟨rfl, x21, hv, rfl⟩
    exact ⟨rfl, x21, rfl⟩
end Hd
namespace Hd
open PySem PySem.Spec L2 Fx

theorem seq_as (a b c : Sv) : sSeq (sSeq a b) c = sSeq a (sSeq b c) := by
  funext en
  unfold sSeq
  cases a en with
  | none => rfl
  | some z =>
    obtain ⟨o, w⟩ := z
    cases o <;> rfl
theorem seq_fin {s c : Sv} {en : En} {P Q : Out × En → Prop} (h : Wp (s en) P) (hP : ∀ y, P y → y.1 = .nx ∧ Wp (c y.2) Q) : Wp (sSeq s c en) Q := by
  obtain ⟨⟨o, z⟩, e1, p⟩ := h
  obtain ⟨q1, q2⟩ := hP _ p
  dsimp only at q1 q2
  subst q1
  unfold sSeq
  rw [e1]
  exact q2
theorem seq_assoc {a b c : Sv} {en : En} {P Q : Out × En → Prop} (h : Wp (sSeq a b en) P) (hP : ∀ y, P y → y.1 = .nx ∧ Wp (c y.2) Q) : Wp (sSeq a (sSeq b c) en) Q := by
  rw [← seq_as]
  exact seq_fin h hP
theorem seq_st {s c : Sv} {en en1 : En} {Q : Out × En → Prop} (h : s en = some (.nx, en1)) (k : Wp (c en1) Q) : Wp (sSeq s c en) Q := by
  unfold sSeq
  rw [h]
  exact k

def ITn (dr : List Int) (sc : D) (en : En) : Prop := ∃ (n : Nat) (x2 x3 x4 x5 x6 x7 x8 x9 x10 x11 x12 x13 x14 x15 x16 x17 x18 x19 x20 x21 : Option (D × Bool)), en = [some (sc, .sh), some (eW dr n, .own), jk x2, jk x3, jk x4, jk x5, jk x6, jk x7, jk x8, jk x9, jk x10, jk x11, jk x12, jk x13, jk x14, jk x15, jk x16, jk x17, jk x18, jk x19, jk x20, jk x21]
theorem turn_ok {dr : List Int} (hd : Ok997 dr) (sc d : D) (en : En) (hI : ITn dr sc en) : Wp (gN 2 d en) fun e1 => Wp (sSeq (sSet 3 (fCallW 0 1 (lNil) F__law_samples)) (sSeq (sSet 4 (fN (aCons (toO (f2 (fSlot 3) (svO (fC (.int 0))) dIxA)) (aNil)) dSort)) (sSeq (sSet 5 (fN (aCons (toO (fLc [6] (itV (fName 4)) (gN 6) (tTrue) (fTup (lCons (fName 6) (lCons (toV (fLc [7] (itV (fName 3)) (gN 7) (tTrue) (toV (f2 (fSlot 7) (fSlot 6) dIxA)))) (lNil)))))) (aNil)) dDict)) (sSeq (sSet 8 (fLc [6] (itV (fName 4)) (gN 6) (tB1 (f2 (toO (fN (aCons (toO (f2 (fSlot 5) (fSlot 6) dIxA)) (aNil)) dLenSet)) (svO (fC (.int 1))) (dEq))) (fName 6))) (sSeq (sIf (tNotF (tB1 (fCall 2 (lCons (toV (fCall 1 (lCons (fName 3) (lNil)) F_constants)) (lCons (toV (fN (aCons (toO (fLc [6] (itV (fName 8)) (gN 6) (tTrue) (fTup (lCons (fName 6) (lCons (toV (f2 (toO (f2 (fSlot 5) (fSlot 6) dIxA)) (svO (fC (.int 0))) dIxA)) (lNil)))))) (aNil)) dDict)) (lNil))) F__law_same_dict))) (sRet (ofV (fC (.bool false)))) (sNx)) (sSeq (sIf (tNotF (tB1 (fCall 2 (lCons (toV (fCall 1 (lCons (fName 3) (lNil)) F_ranges)) (lCons (toV (fN (aCons (toO (fLc [6] (itV (fName 4)) (gN 6) (tTrue) (fTup (lCons (fName 6) (lCons (fTup (lCons (toV (fN (aCons (toO (f2 (fSlot 5) (fSlot 6) dIxA)) (aNil)) (dPick PySem.W.minD))) (lCons (toV (fN (aCons (toO (f2 (fSlot 5) (fSlot 6) dIxA)) (aNil)) (dPick PySem.W.maxD))) (lNil)))) (lNil)))))) (aNil)) dDict)) (lNil))) F__law_same_dict))) (sRet (ofV (fC (.bool false)))) (sNx)) (sSeq (sIf (tNotF (tB1 (fCall 2 (lCons (toV (fCall 1 (lCons (fName 3) (lNil)) F_never_zero)) (lCons (toV (fN (aCons (toO (fLc [6] (itV (fName 4)) (gN 6) (tB1 (f2 (svO (fC (.int 0))) (toO (f2 (fSlot 5) (fSlot 6) dIxA)) (dNotIn))) (fName 6))) (aNil)) dTuple)) (lNil))) (F__law_same recN)))) (sRet (ofV (fC (.bool false)))) (sNx)) (sSeq (sSet 9 (fCallW 1 1 (lCons (fC (.int 5)) (lNil)) F__law_next)) (sSeq (sSet 10 (fLc [6] (itV (fName 4)) (gN 6) (tB1 (f2 (toO (fN (aCons (toO (f2 (fSlot 5) (fSlot 6) dIxA)) (aNil)) dLenSet)) (fSlot 9) (isI iLe))) (fName 6))) (sSeq (sIf (tNotF (tB1 (fCall 2 (lCons (toV (fCall 2 (lCons (fName 3) (lCons (fName 9) (lNil))) F_few_values)) (lCons (toV (fN (aCons (toO (fLc [6] (itV (fName 10)) (gN 6) (tTrue) (fTup (lCons (fName 6) (lCons (toV (fN (aCons (toO (fN (aCons (toO (f2 (fSlot 5) (fSlot 6) dIxA)) (aNil)) dSortSetK)) (aNil)) dTuple)) (lNil)))))) (aNil)) dDict)) (lNil))) F__law_same_dict))) (sRet (ofV (fC (.bool false)))) (sNx)) (sSeq (sSet 11 (fLst (lNil))) (sSeq (sFor (itV (fName 4)) (gN 12) (sFor (itV (toV (fLc [14] (itV (fName 4)) (gN 14) (tB1 (f2 (fSlot 14) (fSlot 12) (dNe))) (fName 14)))) (gN 13) (sSeq (sSet 15 (fN (aCons (toO (fLc [7] (itV (fName 3)) (gN 7) (tTrue) (toV (f2 (toO (f2 (fSlot 7) (fSlot 13) dIxA)) (toO (f2 (fSlot 7) (fSlot 12) dIxA)) (isI iSub))))) (aNil)) dSortSetK)) (sIf (tB1 (f2 (toO (f2 (fSlot 15) (svO (fC (.int 0))) dIxA)) (svO (fC (.int 0))) (isI iGt))) (sExpr (fMut 11 isLst (lCons (fTup (lCons (fName 12) (lCons (fC (.str "less")) (lCons (fName 13) (lNil))))) (lNil)) mAppend)) (sIf (tB1 (f2 (fSlot 15) (toO (fLst (lCons (fC (.int 0)) (lNil)))) (dEq))) (sSet 11 (f2 (fSlot 11) (toO (fIf (tB1 (f2 (fSlot 12) (fSlot 13) (dLtS))) (fLst (lCons (fTup (lCons (fName 12) (lCons (fC (.str "same")) (lCons (fName 13) (lNil))))) (lNil))) (fLst (lNil)))) (dAdd))) (sIf (tB1 (f2 (toO (f2 (fSlot 15) (svO (fC (.int 0))) dIxA)) (svO (fC (.int 0))) (dEq))) (sExpr (fMut 11 isLst (lCons (fTup (lCons (fName 12) (lCons (fC (.str "most")) (lCons (fName 13) (lNil))))) (lNil)) mAppend)) (sNx))))))) (sSeq (sIf (tNotF (tB1 (fCall 2 (lCons (toV (fCall 1 (lCons (fName 3) (lNil)) F_orders)) (lCons (toV (fN (aCons (toO (fN (aCons (fSlot 11) (aNil)) dSort)) (aNil)) dTuple)) (lNil))) (F__law_same recN)))) (sRet (ofV (fC (.bool false)))) (sNx)) (sSeq (sSet 16 (fun en => some (.dict [], true, en))) (sSeq (sFor (itV (fName 4)) (gN 6) (sSeq (sSet 17 (fLc [18] (itR (aCons (svO (fC (.int 2))) (aCons (svO (fC (.int 40))) (aNil))) range2D) (gN 18) (tB1 (f2 (toO (fN (aCons (toO (fLc [19] (itV (toV (f2 (fSlot 5) (fSlot 6) dIxA))) (gN 19) (tTrue) (toV (f2 (fSlot 19) (toO (f2 (toO (f2 (fSlot 19) (fSlot 18) (isI iDiv))) (fSlot 18) (isI iMul))) (isI iSub))))) (aNil)) dLenSet)) (svO (fC (.int 1))) (dEq))) (fName 18))) (sIf (tAndF (tB1 (f2 (fSlot 6) (fSlot 8) (dNotIn))) (tB1 (f2 (fSlot 17) (toO (fLst (lNil))) (dNe)))) (sSeq (sSet 18 (fN (aCons (fSlot 17) (aNil)) (dPick PySem.W.maxD))) (sAsg (fTup (lCons (fName 18) (lCons (toV (f2 (toO (f2 (toO (f2 (fSlot 5) (fSlot 6) dIxA)) (svO (fC (.int 0))) dIxA)) (toO (f2 (toO (f2 (toO (f2 (toO (f2 (fSlot 5) (fSlot 6) dIxA)) (svO (fC (.int 0))) dIxA)) (fSlot 18) (isI iDiv))) (fSlot 18) (isI iMul))) (isI iSub))) (lNil)))) (gSubD 16 (fName 6)))) (sNx)))) (sSeq (sIf (tNotF (tB1 (fCallL 2 (aCons (toO (fCall 1 (lCons (fName 3) (lNil)) F_rests)) (aCons (fSlot 16) (aNil))) F__law_same_dict))) (sRet (ofV (fC (.bool false)))) (sNx)) (sSeq (sSet 20 (fLst (lCons (fName 3) (lCons (toV (f2 (fSlot 3) (svO (fC (.int 0))) dIxA)) (lCons (fTup (lNil)) (lCons (fC .none) (lCons (toV (fN (aCons (fSlot 3) (aNil)) dList)) (lCons (toV (f2 (fSlot 3) (svO (fTup (lCons (toV (fDisp (lCons (fC (.str "a")) (lCons (fC (.int 1)) (lNil))))) (lNil)))) (dAdd))) (lCons (toV (f2 (fSlot 3) (svO (fTup (lCons (toV (fun en => some (.dict [], true, en))) (lNil)))) (dAdd))) (lCons (toV (f2 (fSlot 3) (svO (fTup (lCons (toV (fN (aCons (toO (fLc [6] (itV (fName 4)) (gN 6) (tTrue) (fTup (lCons (fName 6) (lCons (fC (.bool true)) (lNil)))))) (aNil)) dDict)) (lNil)))) (dAdd))) (lNil))))))))))) ((sFor (itV (toV (f2 (fSlot 20) (toO (fLst (lCons (fTup (lCons (toV (fDisp (lCons (fC (.str "A")) (lCons (fC (.int 1)) (lNil))))) (lNil))) (lCons (fTup (lCons (toV (fDisp (lCons (fC (.str "a")) (lCons (fC (.str "1")) (lNil))))) (lNil))) (lCons (fTup (lCons (toV (fun en => some (.dict [], true, en))) (lNil))) (lCons (fTup (lCons (toV (fDisp (lCons (fC (.int 1)) (lCons (fC (.int 1)) (lNil))))) (lNil))) (lCons (fTup (lCons (toV (fDisp (lCons (fC (.str "")) (lCons (fC (.int 0)) (lNil))))) (lNil))) (lCons (toV (fSl (fSlot 3) (pNone) (pInt (svO (fC (.int 1)))) dSl)) (lNil))))))))) (dAdd)))) (gN 21) (sIf (tNotF (tB1 (fCall 2 (lCons (toV (fCall 1 (lCons (fName 21) (lNil)) F_are_samples)) (lCons (toV (fCall 1 (lCons (fName 21) (lNil)) F__law_are)) (lNil))) F__law_says))) (sRet (ofV (fC (.bool false)))) (sNx)))))))))))))))))))) e1) fun y => y.1 = .nx ∧ ITn dr sc y.2 := by
  obtain ⟨n, x2, x3, x4, x5, x6, x7, x8, x9, x10, x11, x12, x13, x14, x15, x16, x17, x18, x19, x20, x21, rfl⟩ := hI
  refine wp_of (y := ([some (sc, .sh), some (eW dr n, .own), jk (some (d, false)), jk x3, jk x4, jk x5, jk x6, jk x7, jk x8, jk x9, jk x10, jk x11, jk x12, jk x13, jk x14, jk x15, jk x16, jk x17, jk x18, jk x19, jk x20, jk x21] : En)) (by simp; rfl) ?_
  generalize (some (d, false) : Option (D × Bool)) = x2
  obtain ⟨n', m, L, h, e⟩ := samples_ok hd n
  refine seq_st (en1 := [some (sc, .sh), some (eW dr n', .own), jk x2, some (eL m L, .sh), jk x4, jk x5, jk x6, jk x7, jk x8, jk x9, jk x10, jk x11, jk x12, jk x13, jk x14, jk x15, jk x16, jk x17, jk x18, jk x19, jk x20, jk x21]) (by
    generalize F__law_samples = A1 at *
    generalize eL m L = S2 at *
    simp [e]) ?_
  clear e
  generalize n' = n at *
  refine seq_st (t1 (dr := dr) n sc h x2 x4 x5 x6 x7 x8 x9 x10 x11 x12 x13 x14 x15 x16 x17 x18 x19 x20 x21) ?_
  refine seq_st (t2 (dr := dr) n sc h x2 x5 x6 x7 x8 x9 x10 x11 x12 x13 x14 x15 x16 x17 x18 x19 x20 x21) ?_
  refine seq_st (t3 (dr := dr) n sc h x2 x6 x7 x8 x9 x10 x11 x12 x13 x14 x15 x16 x17 x18 x19 x20 x21) ?_
  refine seq_st (t4 (dr := dr) n sc h x2 x6 x7 x9 x10 x11 x12 x13 x14 x15 x16 x17 x18 x19 x20 x21) ?_
  refine seq_st (t5 (dr := dr) n sc h x2 x6 x7 x9 x10 x11 x12 x13 x14 x15 x16 x17 x18 x19 x20 x21) ?_
  refine seq_st (t6 (dr := dr) n sc h x2 x6 x7 x9 x10 x11 x12 x13 x14 x15 x16 x17 x18 x19 x20 x21) ?_
  obtain ⟨most, _, _, e7⟩ := next_ex hd n 5 (by decide)
  refine seq_st (en1 := [some (sc, .sh), some (eW dr (n + 1), .own), jk x2, some (eL m L, .sh), some (.list (NM m), .sh), some (.dict (TO m L), .own), jk x6, jk x7, some (.list ((stl m L).map fun i => .str (nm i)), .sh), some (.int most, .sh), jk x10, jk x11, jk x12, jk x13, jk x14, jk x15, jk x16, jk x17, jk x18, jk x19, jk x20, jk x21]) (by
    generalize F__law_next = A1 at *
    generalize eL m L = S2 at *
    generalize TO m L = DT at *
    generalize (stl m L).map (fun i => PyData.str (nm i)) = ST8 at *
    generalize NM m = Q4 at *
    simp [e7]) ?_
  clear e7
  generalize n + 1 = n at *
  refine seq_st (t8 (dr := dr) n sc h x2 x6 x7 x10 x11 x12 x13 x14 x15 x16 x17 x18 x19 x20 x21) ?_
  refine seq_st (t9 (dr := dr) n sc h x2 x6 x7 x11 x12 x13 x14 x15 x16 x17 x18 x19 x20 x21) ?_
  refine seq_st (en1 := [some (sc, .sh), some (eW dr n, .own), jk x2, some (eL m L, .sh), some (.list (NM m), .sh), some (.dict (TO m L), .own), jk x6, jk x7, some (.list ((stl m L).map fun i => .str (nm i)), .sh), some (.int most, .sh), some (.list (((rg m).filter (cF L most)).map fun i => .str (nm i)), .sh), some (.list [], .own), jk x12, jk x13, jk x14, jk x15, jk x16, jk x17, jk x18, jk x19, jk x20, jk x21]) (by
    generalize eL m L = S2 at *
    generalize TO m L = DT at *
    generalize (stl m L).map (fun i => PyData.str (nm i)) = ST8 at *
    generalize ((rg m).filter (cF L most)).map (fun i => PyData.str (nm i)) = ST10 at *
    generalize NM m = Q4 at *
    simp) ?_
  refine seq_fin (t11 (dr := dr) n sc h (most := most) x2 x6 x7 x12 x13 x14 x15 x16 x17 x18 x19 x20 x21) ?_
  rintro ⟨o, en⟩ ⟨rfl, x12, x13, x15, rfl⟩
  refine ⟨rfl, ?_⟩
  refine seq_st (t12 (dr := dr) n sc h (most := most) x2 x6 x7 x12 x13 x14 x15 x16 x17 x18 x19 x20 x21) ?_
  refine seq_st (en1 := [some (sc, .sh), some (eW dr n, .own), jk x2, some (eL m L, .sh), some (.list (NM m), .sh), some (.dict (TO m L), .own), jk x6, jk x7, some (.list ((stl m L).map fun i => .str (nm i)), .sh), some (.int most, .sh), some (.list (((rg m).filter (cF L most)).map fun i => .str (nm i)), .sh), some (.list (orT m L (rg m)), .own), jk x12, jk x13, jk x14, jk x15, some (.dict ([]), .own), jk x17, jk x18, jk x19, jk x20, jk x21]) (by
    generalize eL m L = S2 at *
    generalize TO m L = DT at *
    generalize (stl m L).map (fun i => PyData.str (nm i)) = ST8 at *
    generalize ((rg m).filter (cF L most)).map (fun i => PyData.str (nm i)) = ST10 at *
    generalize orT m L (rg m) = OT at *
    generalize NM m = Q4 at *
    simp) ?_
  refine seq_fin (t14 (dr := dr) n sc h (most := most) x2 x6 x7 x12 x13 x14 x15 x17 x18 x19 x20 x21) ?_
  rintro ⟨o, en⟩ ⟨rfl, x6, x17, x18, rfl⟩
  refine ⟨rfl, ?_⟩
  refine seq_st (t15 (dr := dr) n sc h (most := most) x2 x6 x7 x12 x13 x14 x15 x17 x18 x19 x20 x21) ?_
  refine seq_st (t16 (dr := dr) n sc h (most := most) x2 x6 x7 x12 x13 x14 x15 x17 x18 x19 x20 x21) ?_
  refine wp_mono (t17 (dr := dr) n sc h (most := most) x2 x6 x7 x12 x13 x14 x15 x17 x18 x19 x21) ?_
  rintro ⟨o, en⟩ ⟨rfl, x21, rfl⟩
  exact ⟨rfl, n, x2, some (eL m L, false), some (.list (NM m), false), some (.dict (TO m L), true), x6, x7, some (.list ((stl m L).map fun i => .str (nm i)), false), some (.int most, false), some (.list (((rg m).filter (cF L most)).map fun i => .str (nm i)), false), some (.list (orT m L (rg m)), true), x12, x13, x14, x15, some (.dict (dN (gT_ L) ((rg m).filter (cT L))), true), x17, x18, x19, some (.list (VL m L), true), x21, rfl⟩
theorem law_true (ns : List Int) (h : ns.length ≤ 63) : ∃ b, F_law [.list (ns.map .int)] = some (.bool true, b) := by
  have key : Wp (F_law [.list (ns.map .int)]) fun y => y.1 = .bool true := by
    show Wp (mk0 22 b_law _) _
    rw [mk0_e, wp_bind]
    show Wp (b_law [some (.list (ns.map .int), .sh), none, none, none, none, none, none, none, none, none, none, none, none, none, none, none, none, none, none, none, none, none]) _
    unfold b_law
    obtain ⟨y, e1, dr, hd, rfl⟩ := draws_ok ns h 400 (by omega)
    have e1 : F__law_draws [.list (ns.map .int), .int 400] = some (.list (dr.map .int), true) := e1
    have e2 : range1D [.int 6] = some ((List.range 6).map iD) := range1_i (n := 6) (by decide)
    have e3 : mergeD [] [((.inr (Str.ofString "draws") : Key), PyData.list (dr.map .int)), (.inr (Str.ofString "at"), .int 0)] = [(.str "draws", .list (dr.map .int)), (.str "at", .int (0 : Nat))] := by
      simp [mergeD, Fx.dictPut, kD, st1]
    have tk := fun sc d en h => turn_ok hd sc d en h
    generalize F__law_draws = A0 at *
    rw [wp_sSeq, e_sSet, wp_bind, e_fDisp, wp_bind]
    simp [e1]
    simp only [pairsFlat, keyOf_s, ob_some, om_some, e3, wp_some]
    simp
    refine later_i ?_
    rw [wp_sSeq, wp_sFor, itR_s (hs := [.sv (.int 6)]) (by simp) rfl e2]
    refine wp_some.mpr ?_
    refine wp_mono (for_inv (fun ds en => ITn dr (.list (ns.map .int)) en) (Q := fun y => y.1 = .nx ∧ ITn dr (.list (ns.map .int)) y.2) ?_ (fun en h => ⟨rfl, h⟩) _ _ ⟨0, none, none, none, none, none, none, none, none, none, none, none, none, none, none, none, none, none, none, none, none, rfl⟩) ?_
    · intro d r en h
      refine wp_mono (tk _ d en h) ?_
      intro e1 h1
      refine wp_mono h1 ?_
      rintro ⟨o, en⟩ ⟨e0, h⟩
      dsimp only at e0
      subst e0
      exact h
    · rintro ⟨o, en⟩ ⟨e0, n, x2, x3, x4, x5, x6, x7, x8, x9, x10, x11, x12, x13, x14, x15, x16, x17, x18, x19, x20, x21, e4⟩
      dsimp only at e0 e4
      subst e0
      subst e4
      refine later_i ?_
      simp
  obtain ⟨⟨y1, y2⟩, e1, e2⟩ := key
  dsimp only at e2
  subst e2
  exact ⟨y2, e1⟩
end Hd
namespace Hd
open PySem PySem.Spec L2 Fx
theorem facts {P : Program} {w : World} {K : PySem.W.Frag} {h : Heap} {mg : Str → Option Value} {f : Addr} (X : K.In h) (G : h.Ns mainGlobals mg) (hfa : mg ("law" : Str) = some (.ref f)) (c : He.SaysD fa fn K) :
    ∃ fd : FuncData, (∀ (s : Shared) (v : Value), BindsTo s fd ⟨[v], []⟩ [("script", v)]) ∧ ∀ base : Heap, K.In base → base.Ns mainGlobals mg → FnOk P w K mg base CX0 23 f fd ["script"] (sp0 K 1 F_law) := by
  have cd : He.SaysD fa fn K := c
  obtain ⟨fd_is_number, D_is_number⟩ := cd.def_ 0 (d := d_is_number) rfl
  obtain ⟨fd_is_name, D_is_name⟩ := cd.def_ 1 (d := d_is_name) rfl
  obtain ⟨fd_common, D_common⟩ := cd.def_ 2 (d := d_common) rfl
  obtain ⟨fd_are_samples, D_are_samples⟩ := cd.def_ 3 (d := d_are_samples) rfl
  obtain ⟨fd_constants, D_constants⟩ := cd.def_ 4 (d := d_constants) rfl
  obtain ⟨fd_ranges, D_ranges⟩ := cd.def_ 5 (d := d_ranges) rfl
  obtain ⟨fd_never_zero, D_never_zero⟩ := cd.def_ 6 (d := d_never_zero) rfl
  obtain ⟨fd_orders, D_orders⟩ := cd.def_ 7 (d := d_orders) rfl
  obtain ⟨fd_rests, D_rests⟩ := cd.def_ 8 (d := d_rests) rfl
  obtain ⟨fd_few_values, D_few_values⟩ := cd.def_ 9 (d := d_few_values) rfl
  obtain ⟨fd__law_draws, D__law_draws⟩ := cd.def_ 10 (d := d__law_draws) rfl
  obtain ⟨fd__law_next, D__law_next⟩ := cd.def_ 11 (d := d__law_next) rfl
  obtain ⟨fd__law_pick, D__law_pick⟩ := cd.def_ 12 (d := d__law_pick) rfl
  obtain ⟨fd__law_says, D__law_says⟩ := cd.def_ 13 (d := d__law_says) rfl
  obtain ⟨fd__law_same, D__law_same⟩ := cd.def_ 14 (d := d__law_same) rfl
  obtain ⟨fd__law_sets, D__law_sets⟩ := cd.def_ 15 (d := d__law_sets) rfl
  obtain ⟨fd__law_is_number, D__law_is_number⟩ := cd.def_ 16 (d := d__law_is_number) rfl
  obtain ⟨fd__law_same_dict, D__law_same_dict⟩ := cd.def_ 17 (d := d__law_same_dict) rfl
  obtain ⟨fd__law_samples, D__law_samples⟩ := cd.def_ 18 (d := d__law_samples) rfl
  obtain ⟨fd__law_are, D__law_are⟩ := cd.def_ 19 (d := d__law_are) rfl
  obtain ⟨fd_law, D_law⟩ := cd.def_ 20 (d := d_law) rfl
  have g_is_number := He.glo_ok X G (cd.fact 0 (f := .glo "is_number") rfl)
  have g_is_name := He.glo_ok X G (cd.fact 1 (f := .glo "is_name") rfl)
  have g_common := He.glo_ok X G (cd.fact 2 (f := .glo "common") rfl)
  have g_are_samples := He.glo_ok X G (cd.fact 3 (f := .glo "are_samples") rfl)
  have g_constants := He.glo_ok X G (cd.fact 4 (f := .glo "constants") rfl)
  have g_ranges := He.glo_ok X G (cd.fact 5 (f := .glo "ranges") rfl)
  have g_never_zero := He.glo_ok X G (cd.fact 6 (f := .glo "never_zero") rfl)
  have g_orders := He.glo_ok X G (cd.fact 7 (f := .glo "orders") rfl)
  have g_rests := He.glo_ok X G (cd.fact 8 (f := .glo "rests") rfl)
  have g_few_values := He.glo_ok X G (cd.fact 9 (f := .glo "few_values") rfl)
  have g__law_draws := He.glo_ok X G (cd.fact 10 (f := .glo "_law_draws") rfl)
  have g__law_next := He.glo_ok X G (cd.fact 11 (f := .glo "_law_next") rfl)
  have g__law_pick := He.glo_ok X G (cd.fact 12 (f := .glo "_law_pick") rfl)
  have g__law_says := He.glo_ok X G (cd.fact 13 (f := .glo "_law_says") rfl)
  have g__law_same := He.glo_ok X G (cd.fact 14 (f := .glo "_law_same") rfl)
  have g__law_sets := He.glo_ok X G (cd.fact 15 (f := .glo "_law_sets") rfl)
  have g__law_is_number := He.glo_ok X G (cd.fact 16 (f := .glo "_law_is_number") rfl)
  have g__law_same_dict := He.glo_ok X G (cd.fact 17 (f := .glo "_law_same_dict") rfl)
  have g__law_samples := He.glo_ok X G (cd.fact 18 (f := .glo "_law_samples") rfl)
  have g__law_are := He.glo_ok X G (cd.fact 19 (f := .glo "_law_are") rfl)
  have g_law := He.glo_ok X G (cd.fact 20 (f := .glo "law") rfl)
  have M : Mg mg := ⟨He.free_ok X G (cd.fact 21 (f := .free "abs") rfl), He.free_ok X G (cd.fact 22 (f := .free "all") rfl), He.free_ok X G (cd.fact 23 (f := .free "bool") rfl), He.free_ok X G (cd.fact 24 (f := .free "dict") rfl), He.free_ok X G (cd.fact 25 (f := .free "int") rfl), He.free_ok X G (cd.fact 26 (f := .free "isinstance") rfl), He.free_ok X G (cd.fact 27 (f := .free "len") rfl), He.free_ok X G (cd.fact 28 (f := .free "list") rfl), He.free_ok X G (cd.fact 29 (f := .free "max") rfl), He.free_ok X G (cd.fact 30 (f := .free "min") rfl), He.free_ok X G (cd.fact 31 (f := .free "range") rfl), He.free_ok X G (cd.fact 32 (f := .free "set") rfl), He.free_ok X G (cd.fact 33 (f := .free "sorted") rfl), He.free_ok X G (cd.fact 34 (f := .free "str") rfl), He.free_ok X G (cd.fact 35 (f := .free "tuple") rfl), He.str_ok X G (cd.fact 36 (f := .str "LETTERS" "abcdefghijklmnopqrstuvwxyz") rfl), He.str_ok X G (cd.fact 37 (f := .str "DIGITS" "0123456789") rfl)⟩
  have e := hfa.symm.trans g_law
  cases e
  have b := FunD.bindsA (ps := ["script"]) D_law fun _ _ _ _ _ _ us hl => match us, hl with | [_], _ => rfl
  refine ⟨fd_law, fun s v => b s [v] rfl, fun base _ _ => ?_⟩
  have o_is_number := ok_is_number (P := P) (w := w) (base := base) M D_is_number  g_is_number
  have o_is_name := ok_is_name (P := P) (w := w) (base := base) M D_is_name  g_is_name
  have o_common := ok_common (P := P) (w := w) (base := base) M D_common  g_common
  have o_are_samples := ok_are_samples (P := P) (w := w) (base := base) M D_are_samples o_is_name o_is_number g_are_samples
  have o_constants := ok_constants (P := P) (w := w) (base := base) M D_constants  g_constants
  have o_ranges := ok_ranges (P := P) (w := w) (base := base) M D_ranges  g_ranges
  have o_never_zero := ok_never_zero (P := P) (w := w) (base := base) M D_never_zero  g_never_zero
  have o_orders := ok_orders (P := P) (w := w) (base := base) M D_orders  g_orders
  have o_rests := ok_rests (P := P) (w := w) (base := base) M D_rests o_common g_rests
  have o_few_values := ok_few_values (P := P) (w := w) (base := base) M D_few_values  g_few_values
  have o__law_draws := ok__law_draws (P := P) (w := w) (base := base) M D__law_draws  g__law_draws
  have o__law_next := ok__law_next (P := P) (w := w) (base := base) M D__law_next  g__law_next
  have o__law_pick := ok__law_pick (P := P) (w := w) (base := base) M D__law_pick o__law_next g__law_pick
  have o__law_says := ok__law_says (P := P) (w := w) (base := base) M D__law_says  g__law_says
  have o__law_same := ok__law_same (P := P) (w := w) (base := base) M D__law_same  g__law_same
  have o__law_sets := ok__law_sets (P := P) (w := w) (base := base) M D__law_sets  g__law_sets
  have o__law_is_number := ok__law_is_number (P := P) (w := w) (base := base) M D__law_is_number  g__law_is_number
  have o__law_same_dict := ok__law_same_dict (P := P) (w := w) (base := base) M D__law_same_dict o__law_same g__law_same_dict
  have o__law_samples := ok__law_samples (P := P) (w := w) (base := base) M D__law_samples o__law_next g__law_samples
  have o__law_are := ok__law_are (P := P) (w := w) (base := base) M D__law_are o__law_is_number g__law_are
  exact fn_law M D_law o__law_draws o__law_samples o__law_same_dict o_constants o_ranges o__law_same o_never_zero o__law_next o_few_values o_orders o_rests o__law_says o_are_samples o__law_are
end Hd
open PySem PySem.W PySem.Calls PyProof.Rows
theorem PySem.Challenge.cw_stepswatched_k32_what_always_held_holds : PySem.Challenge.rw_stepswatched_k32_what_always_held.Holds := by
  w_on; o_law
  refine HandSHeadRun.head_any (r := Hd.R) (q := view Hd.R.prog [25]) (H := Hd.hk) (ob := Hd.ob) (M := 4000) (loose := Hd.names) (d := HandSHeadRun.topDef Hd.R.prog 25) (kwd := []) Hd.ob_eq
    (by kernel_rfl) (fun s => by kernel_rfl) Hd.run (by kernel_rfl) (by kernel_rfl) (by kernel_rfl) (by rfl) (by first | assumption | decide +kernel) (by decide +kernel) ⟨rfl, rfl, rfl, rfl, rfl, by decide +kernel⟩ ?hw ?hc
  case hw => w_witness2
  case hc =>
    refine L2.walk_ofE (l := PySem.Challenge.rw_stepswatched_k32_what_always_held) (n := 63) (k := 23) (x := "script") (CX := L2.CX0) rfl (by decide) (by kernel_rfl) ⟨rfl, by decide, by decide⟩ ?F (fun _ _ _ _ z => z)
    intro w mg fa h Y G hmg0
    obtain ⟨K, KX, c⟩ := Y
    have hmg : mg ("law" : PySem.Str) = some (.ref fa) := by
      have e : (HandSHeadRun.topDef Hd.R.prog 25).name = ("law" : PySem.Str) := by kernel_rfl
      rw [← e]
      exact hmg0
    obtain ⟨fd, hb, hF⟩ := Hd.facts (P := Hd.R.prog) (w := w) KX G hmg c
    refine ⟨K, fd, Fx.sp0 K 1 Hd.F_law, KX, hb, fun H a ns hl _ hS => ?_, hF⟩
    obtain ⟨b, e⟩ := Hd.law_true ns hl
    refine ⟨H, [.list (ns.map .int)], .bool true, b, L2.Same.refl _, .cons (.lst hS (Fx.reps_ints ns)) .nil, rfl, e, fun v G' H' _ r => Fx.res_bool (G := H) (H := H) r⟩
