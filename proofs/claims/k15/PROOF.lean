import PyProof.Rows.All
import Wide.All
import OpenK.AllK
import Wide.FinOn
import KE.KStateDown
import HandS.Base
import HandS.Call
import HandS.Ends
import HandS.More
import HandS.Words
import HandS.WordsExc
import HandS.Defaults
import HandS.Head0
import HandS.Head1
import HandS.Head2
import HandS.HeadEnd
import HandS.HeadHook1
import HandS.HeadHook2
import PySem.Challenge.RW_stepswatched_k15_guesses_on_stacks
import HandS.ForMost
import HandS.Deep
import HandS.Flow
import HandS.TupAny
import HandS.IsInst
import HandS.Codes
import KE.KDictPairs
import HandS.Sort
import HandS.Style
import HandS.ReCall
import HandS.BoundList
import KE.SortData
import KE.KItemsList
import HandS.ExcValue
import HandS.DictTup
import HandS.Conv
import KE.DataMinMax
import HandS.Comp
import HandS.SetFor
import HandS.Strs
set_option Elab.async false
set_option linter.all false
set_option maxRecDepth 100000
set_option maxHeartbeats 0
set_option autoImplicit false
namespace Hd
open PySem PySem.Spec PyProof.Rows L2
def top (i : Nat) : Stmt := PySem.Challenge.pw_stepswatched_k15_guesses_on_stacks.main.body.getD i (.Pass ⟨0, 0, 0, 0⟩)
abbrev R : PySem.W.OpenRow := PySem.W.OpenLaw.row PySem.Challenge.rw_stepswatched_k15_guesses_on_stacks
abbrev s_rule_in : Stmt := top 1
def d_rule_in : He.DefD := ⟨("rule_in", none), "rule_in", "rule_in", defArgs s_rule_in, defBody s_rule_in, defScope s_rule_in, [], []⟩
abbrev s_code_for : Stmt := top 3
def d_code_for : He.DefD := ⟨("code_for", none), "code_for", "code_for", defArgs s_code_for, defBody s_code_for, defScope s_code_for, [], []⟩
abbrev s_name_for : Stmt := top 4
def d_name_for : He.DefD := ⟨("name_for", none), "name_for", "name_for", defArgs s_name_for, defBody s_name_for, defScope s_name_for, [], []⟩
abbrev s_caller_of : Stmt := top 5
def d_caller_of : He.DefD := ⟨("caller_of", none), "caller_of", "caller_of", defArgs s_caller_of, defBody s_caller_of, defScope s_caller_of, [], []⟩
abbrev s_guesses : Stmt := top 6
def d_guesses : He.DefD := ⟨("guesses", none), "guesses", "guesses", defArgs s_guesses, defBody s_guesses, defScope s_guesses, [], []⟩
abbrev s_guessed_names : Stmt := top 7
def d_guessed_names : He.DefD := ⟨("guessed_names", none), "guessed_names", "guessed_names", defArgs s_guessed_names, defBody s_guessed_names, defScope s_guessed_names, [], []⟩
abbrev s_false_guesses : Stmt := top 8
def d_false_guesses : He.DefD := ⟨("false_guesses", none), "false_guesses", "false_guesses", defArgs s_false_guesses, defBody s_false_guesses, defScope s_false_guesses, [], []⟩
abbrev s_moved : Stmt := top 9
def d_moved : He.DefD := ⟨("moved", none), "moved", "moved", defArgs s_moved, defBody s_moved, defScope s_moved, [], []⟩
abbrev s_offsets_for : Stmt := top 10
def d_offsets_for : He.DefD := ⟨("offsets_for", none), "offsets_for", "offsets_for", defArgs s_offsets_for, defBody s_offsets_for, defScope s_offsets_for, [], []⟩
abbrev s__law_draws : Stmt := top 12
def d__law_draws : He.DefD := ⟨("_law_draws", none), "_law_draws", "_law_draws", defArgs s__law_draws, defBody s__law_draws, defScope s__law_draws, [], []⟩
abbrev s__law_next : Stmt := top 13
def d__law_next : He.DefD := ⟨("_law_next", none), "_law_next", "_law_next", defArgs s__law_next, defBody s__law_next, defScope s__law_next, [], []⟩
abbrev s__law_codes : Stmt := top 14
def d__law_codes : He.DefD := ⟨("_law_codes", none), "_law_codes", "_law_codes", defArgs s__law_codes, defBody s__law_codes, defScope s__law_codes, [], []⟩
abbrev s__law_code_at : Stmt := top 15
def d__law_code_at : He.DefD := ⟨("_law_code_at", none), "_law_code_at", "_law_code_at", defArgs s__law_code_at, defBody s__law_code_at, defScope s__law_code_at, [], []⟩
abbrev s__law_rule_at : Stmt := top 16
def d__law_rule_at : He.DefD := ⟨("_law_rule_at", none), "_law_rule_at", "_law_rule_at", defArgs s__law_rule_at, defBody s__law_rule_at, defScope s__law_rule_at, [], []⟩
abbrev s__law_caller : Stmt := top 17
def d__law_caller : He.DefD := ⟨("_law_caller", none), "_law_caller", "_law_caller", defArgs s__law_caller, defBody s__law_caller, defScope s__law_caller, [], []⟩
abbrev s__law_world : Stmt := top 18
def d__law_world : He.DefD := ⟨("_law_world", none), "_law_world", "_law_world", defArgs s__law_world, defBody s__law_world, defScope s__law_world, [], []⟩
abbrev s_law : Stmt := top 19
def d_law : He.DefD := ⟨("law", none), "law", "law", defArgs s_law, defBody s_law, defScope s_law, [], []⟩
def fn : List He.DefD := [d_rule_in, d_code_for, d_name_for, d_caller_of, d_guesses, d_guessed_names, d_false_guesses, d_moved, d_offsets_for, d__law_draws, d__law_next, d__law_codes, d__law_code_at, d__law_rule_at, d__law_caller, d__law_world, d_law]
def fa : List He.Fa := [.glo "rule_in", .glo "code_for", .glo "name_for", .glo "caller_of", .glo "guesses", .glo "guessed_names", .glo "false_guesses", .glo "moved", .glo "offsets_for", .glo "_law_draws", .glo "_law_next", .glo "_law_codes", .glo "_law_code_at", .glo "_law_rule_at", .glo "_law_caller", .glo "_law_world", .glo "law", .free "abs", .free "all", .free "dict", .free "int", .free "len", .free "list", .free "range", .free "set", .free "sorted", .free "tuple"]
abbrev hk : PySem.W.Hook := He.hookD 4 fa fn
def ob (s : PySem.W.SharedT) : He.AlD := He.obsDG 4 fa fn (HandSHeadRun.getT s)
theorem ob_eq (s : PySem.W.SharedT) : ob s = hk.obs s.abs := He.obsDG_eq (HandSHeadRun.getT_eq s)
def names : List PySem.Str := ["rule_in", "code_for", "name_for", "caller_of", "guesses", "guessed_names", "false_guesses", "moved", "offsets_for", "_law_draws", "_law_next", "_law_codes", "_law_code_at", "_law_rule_at", "_law_caller", "_law_world"]
theorem run (w : World) : HandSHeadRun.RunEq R (PySem.W.view R.prog [19]) hk ob 4000 names w := by
  intro os
  kernel_rfl
end Hd
/-! Fx0: values as data, environments with owned slots, the steps. -/
namespace Fx
open PySem PySem.Spec L2

abbrev D := PyData
/-- a slot's value: shared (never written again), owned by this frame alone, or lent by the caller -/
inductive Fl where
  | sh | own | lent
  deriving DecidableEq
abbrev En := List (Option (D × Fl))

def kD : Key → D
  | .inl i => .int i
  | .inr x => .str x

/-- a tuple that stands for ever, an exact one -/
def TupG (K : PySem.W.Frag) (G : Hp) (a : Addr) (xs : List V) : Prop :=
  (∃ o, G a = some (.frz o (.tup xs)) ∧ o.dict = none) ∨
    ∃ (o : Obj) (its : Array Value) (n : Nat), K.lookup a = some o ∧ o.cls = .type "tuple" ∧ o.dict = none ∧ o.data = .seq its n ∧ its.size ≤ sizeLine ∧ Vals xs its.toList
theorem TupG.sq {K : PySem.W.Frag} {G : Hp} {a : Addr} {xs : List V} (h : TupG K G a xs) : SqT K G a xs := by
  rcases h with ⟨o, h, _⟩ | ⟨o, its, n, h1, h2, _, h3⟩
  · exact .inl (.inr ⟨o, h⟩)
  · exact .inr ⟨o, its, n, h1, h2, h3⟩
theorem TupG.mono {K : PySem.W.Frag} {G G' : Hp} {a : Addr} {xs : List V} (e : Same G G') (h : TupG K G a xs) : TupG K G' a xs := by
  rcases h with ⟨o, h, d⟩ | h
  · exact .inl ⟨o, e _ _ h, d⟩
  · exact .inr h
mutual
inductive Rep (K : PySem.W.Frag) (G : Hp) : V → D → Prop
  | non : Rep K G .non .none
  | bl (b : Bool) : Rep K G (.bl b) (.bool b)
  | int (i : Int) : Rep K G (.int i) (.int i)
  | str (x : Str) : Rep K G (.str x) (.str x)
  | tup {a : Addr} {xs : List V} {ds : List D} : TupG K G a xs → Reps K G xs ds → Rep K G (.ref a) (.tuple ds)
  | lst {a : Addr} {xs : List V} {ds : List D} : SqL K G a xs → Reps K G xs ds → Rep K G (.ref a) (.list ds)
  | dct {a : Addr} {kvs : List (Key × V)} {es : List (D × D)} : Rd G a (.dK kvs) → RepKV K G kvs es → Rep K G (.ref a) (.dict es)
inductive Reps (K : PySem.W.Frag) (G : Hp) : List V → List D → Prop
  | nil : Reps K G [] []
  | cons {v : V} {d : D} {vs : List V} {ds : List D} : Rep K G v d → Reps K G vs ds → Reps K G (v :: vs) (d :: ds)
inductive RepKV (K : PySem.W.Frag) (G : Hp) : List (Key × V) → List (D × D) → Prop
  | nil : RepKV K G [] []
  | cons {k : Key} {v : V} {d : D} {r : List (Key × V)} {s : List (D × D)} : Rep K G v d → RepKV K G r s → RepKV K G ((k, v) :: r) ((kD k, d) :: s)
end
/-- a written object -/
inductive RepO (K : PySem.W.Frag) (G : Hp) : HO → D → Prop
  | lst {xs : List V} {ds : List D} : Reps K G xs ds → RepO K G (.lst xs) (.list ds)
  | dK {kvs : List (Key × V)} {es : List (D × D)} : RepKV K G kvs es → RepO K G (.dK kvs) (.dict es)

theorem seqT {K : PySem.W.Frag} {H H' : Hp} {a : Addr} {xs : List V} (e : Same H H') (h : SqT K H a xs) : SqT K H' a xs := by
  rcases h with (h | ⟨o, h⟩) | h
  · exact .inl (.inl (e _ _ h))
  · exact .inl (.inr ⟨o, e _ _ h⟩)
  · exact .inr h
theorem rdS {H H' : Hp} {a : Addr} {u : HO} (e : Same H H') (h : Rd H a u) : Rd H' a u := by
  rcases h with h | ⟨o, h⟩
  · exact .inl (e _ _ h)
  · exact .inr ⟨o, e _ _ h⟩
section
variable {K : PySem.W.Frag} {G G' H H' : Hp}
mutual
theorem Rep.mono (e : Same G G') : ∀ {v : V} {d : D}, Rep K G v d → Rep K G' v d
  | _, _, .non => .non
  | _, _, .bl b => .bl b
  | _, _, .int i => .int i
  | _, _, .str x => .str x
  | _, _, .tup h r => .tup (h.mono e) (Reps.mono e r)
  | _, _, .lst h r => .lst (e.seq h) (Reps.mono e r)
  | _, _, .dct h r => .dct (rdS e h) (RepKV.mono e r)
theorem Reps.mono (e : Same G G') : ∀ {v : List V} {d : List D}, Reps K G v d → Reps K G' v d
  | _, _, .nil => .nil
  | _, _, .cons h r => .cons (Rep.mono e h) (Reps.mono e r)
theorem RepKV.mono (e : Same G G') : ∀ {v : List (Key × V)} {d : List (D × D)}, RepKV K G v d → RepKV K G' v d
  | _, _, .nil => .nil
  | _, _, .cons h r => .cons (Rep.mono e h) (RepKV.mono e r)
end
theorem RepO.mono (e : Same G G') : ∀ {o : HO} {d : D}, RepO K G o d → RepO K G' o d
  | _, _, .lst r => .lst (r.mono e)
  | _, _, .dK r => .dK (r.mono e)
/-- an object that is shared from now on -/
theorem RepO.rep {o : HO} {d : D} {a : Addr} (h : RepO K G o d) (e : G a = some o) : Rep K G (.ref a) d := by
  cases h with
  | lst r => exact .lst (.inl (.inl e)) r
  | dK r => exact .dct (.inl e) r
theorem Reps.length : ∀ {vs : List V} {ds : List D}, Reps K G vs ds → vs.length = ds.length
  | _, _, .nil => rfl
  | _, _, .cons _ r => congrArg Nat.succ (Reps.length r)
theorem Reps.get : ∀ {vs : List V} {ds : List D} {i : Nat} {v : V}, Reps K G vs ds → vs[i]? = some v → ∃ d, ds[i]? = some d ∧ Rep K G v d
  | _, _, _, _, .nil, e => by simp at e
  | _, _, 0, _, .cons r _, e => by simp at e; subst e; exact ⟨_, rfl, r⟩
  | _, _, i + 1, v, .cons _ t, e => by
    obtain ⟨d, h1, h2⟩ := Reps.get (i := i) (v := v) t (by simpa using e)
    exact ⟨d, by simpa using h1, h2⟩
theorem Reps.get' : ∀ {vs : List V} {ds : List D} {i : Nat} {d : D}, Reps K G vs ds → ds[i]? = some d → ∃ v, vs[i]? = some v ∧ Rep K G v d
  | _, _, _, _, .nil, e => by simp at e
  | _, _, 0, _, .cons r _, e => by simp at e; subst e; exact ⟨_, rfl, r⟩
  | _, _, i + 1, v, .cons _ t, e => by
    obtain ⟨d, h1, h2⟩ := Reps.get' (i := i) (d := v) t (by simpa using e)
    exact ⟨d, by simpa using h1, h2⟩
theorem Reps.append : ∀ {vs ws : List V} {ds es : List D}, Reps K G vs ds → Reps K G ws es → Reps K G (vs ++ ws) (ds ++ es)
  | _, _, _, _, .nil, s => s
  | _, _, _, _, .cons h r, s => .cons h (Reps.append r s)
theorem Reps.take : ∀ {vs : List V} {ds : List D} (n : Nat), Reps K G vs ds → Reps K G (vs.take n) (ds.take n)
  | _, _, 0, _ => .nil
  | _, _, _ + 1, .nil => .nil
  | _, _, n + 1, .cons h r => .cons h (Reps.take n r)
theorem Reps.drop : ∀ {vs : List V} {ds : List D} (n : Nat), Reps K G vs ds → Reps K G (vs.drop n) (ds.drop n)
  | _, _, 0, h => h
  | _, _, _ + 1, .nil => .nil
  | _, _, n + 1, .cons _ r => Reps.drop n r
theorem Reps.set {v : V} {d : D} (h : Rep K G v d) : ∀ {vs : List V} {ds : List D} (i : Nat), Reps K G vs ds → Reps K G (vs.set i v) (ds.set i d)
  | _, _, _, .nil => .nil
  | _, _, 0, .cons _ r => .cons h r
  | _, _, i + 1, .cons q r => .cons q (Reps.set h i r)
theorem Reps.reverse : ∀ {vs : List V} {ds : List D}, Reps K G vs ds → Reps K G vs.reverse ds.reverse
  | _, _, .nil => .nil
  | _, _, .cons h r => by rw [List.reverse_cons, List.reverse_cons]; exact (Reps.reverse r).append (.cons h .nil)
theorem Reps.eraseIdx : ∀ {vs : List V} {ds : List D} (i : Nat), Reps K G vs ds → Reps K G (vs.eraseIdx i) (ds.eraseIdx i)
  | _, _, _, .nil => .nil
  | _, _, 0, .cons _ r => r
  | _, _, i + 1, .cons q r => .cons q (Reps.eraseIdx i r)
end

/-! ### environments over slots and heaps -/
/-- the addresses that this frame may write -/
def OwnA (en : En) (σ : St) (b : Addr) : Prop := ∃ (i : Nat) (d : D) (f : Fl), en[i]? = some (some (d, f)) ∧ f ≠ .sh ∧ σ[i]? = some (some (.ref b))

/-- G: what stands for ever; H: all that is tracked -/
structure SR (K : PySem.W.Frag) (G H : Hp) (en : En) (σ : St) : Prop where
  sub : Same G H
  len : en.length = σ.length
  shd : ∀ (i : Nat) (d : D), en[i]? = some (some (d, .sh)) → ∃ v, σ[i]? = some (some v) ∧ Rep K G v d
  own : ∀ (i : Nat) (d : D) (f : Fl), en[i]? = some (some (d, f)) → f ≠ .sh → ∃ a o, σ[i]? = some (some (.ref a)) ∧ G a = none ∧ H a = some o ∧ RepO K G o d
  sep : ∀ (i j : Nat) (d e : D) (f g : Fl) (a : Addr), en[i]? = some (some (d, f)) → f ≠ .sh → en[j]? = some (some (e, g)) → g ≠ .sh → σ[i]? = some (some (.ref a)) → σ[j]? = some (some (.ref a)) → i = j

/-- from (G, H) to (G', H'), O alone written -/
structure Ext (O : Addr → Prop) (G H G' H' : Hp) : Prop where
  g : Same G G'
  h : ∀ b o, H b = some o → ¬ O b → H' b = some o
  n : ∀ b o, H b = some o → ¬ O b → G b = none → G' b = none
  t : ∀ b, H' b = none → H b = none

section
variable {K : PySem.W.Frag} {O O1 O2 : Addr → Prop} {G H G1 H1 G2 H2 : Hp} {en en1 en2 : En} {σ σ1 σ2 : St}
theorem Ext.refl : Ext O G H G H := ⟨Same.refl _, fun _ _ e _ => e, fun _ _ _ _ e => e, fun _ e => e⟩
theorem Ext.trans (a : Ext O1 G H G1 H1) (b : Ext O2 G1 H1 G2 H2) (k : ∀ x, O2 x → O1 x ∨ H x = none) : Ext O1 G H G2 H2 := by
  have no : ∀ x o, H x = some o → ¬ O1 x → ¬ O2 x := fun x o e n q => by
    rcases k x q with z | z
    · exact n z
    · rw [z] at e; cases e
  exact ⟨a.g.trans b.g, fun x o e n => b.h x o (a.h x o e n) (no x o e n), fun x o e n g => b.n x o (a.h x o e n) (no x o e n) (a.n x o e n g), fun x e => a.t x (b.t x e)⟩
theorem Ext.weak (a : Ext O1 G H G1 H1) (k : ∀ x o, O1 x → H x = some o → O2 x) : Ext O2 G H G1 H1 :=
  ⟨a.g, fun x o e n => a.h x o e fun q => n (k x o q e), fun x o e n g => a.n x o e (fun q => n (k x o q e)) g, a.t⟩
theorem SR.there (S : SR K G H en σ) {b : Addr} (h : OwnA en σ b) : ∃ o, H b = some o ∧ G b = none := by
  obtain ⟨i, d, f, e, n, s⟩ := h
  obtain ⟨a, o, s', g, h', _⟩ := S.own i d f e n
  rw [s] at s'
  cases s'
  exact ⟨o, h', g⟩

/-- a step within an expression: the slots stand -/
structure Step (K : PySem.W.Frag) (en en' : En) (σ : St) (G H G' H' : Hp) : Prop where
  ext : Ext (OwnA en σ) G H G' H'
  sr : SR K G' H' en' σ
  own : ∀ b, OwnA en' σ b → OwnA en σ b
  lent : ∀ (i : Nat) (d : D), en[i]? = some (some (d, .lent)) → ∃ d', en'[i]? = some (some (d', .lent))
theorem Step.refl (S : SR K G H en σ) : Step K en en σ G H G H := ⟨Ext.refl, S, fun _ h => h, fun _ d e => ⟨d, e⟩⟩
theorem Step.trans (a : Step K en en1 σ G H G1 H1) (b : Step K en1 en2 σ G1 H1 G2 H2) : Step K en en2 σ G H G2 H2 :=
  ⟨a.ext.trans b.ext fun x h => .inl (a.own x h), b.sr, fun x h => a.own x (b.own x h), fun i d e => let ⟨d', e'⟩ := a.lent i d e; b.lent i d' e'⟩
/-- a step of statements -/
structure StepS (K : PySem.W.Frag) (en : En) (σ : St) (G H : Hp) (en' : En) (σ' : St) (G' H' : Hp) : Prop where
  ext : Ext (OwnA en σ) G H G' H'
  sr : SR K G' H' en' σ'
  own : ∀ b, OwnA en' σ' b → OwnA en σ b ∨ H b = none
  lent : ∀ (i : Nat) (d : D), en[i]? = some (some (d, .lent)) → (∃ d', en'[i]? = some (some (d', .lent))) ∧ σ'[i]? = σ[i]?
theorem StepS.refl (S : SR K G H en σ) : StepS K en σ G H en σ G H := ⟨Ext.refl, S, fun _ h => .inl h, fun _ d e => ⟨⟨d, e⟩, rfl⟩⟩
theorem Step.s (a : Step K en en1 σ G H G1 H1) : StepS K en σ G H en1 σ G1 H1 := ⟨a.ext, a.sr, fun b h => .inl (a.own b h), fun i d e => ⟨a.lent i d e, rfl⟩⟩
theorem StepS.trans (a : StepS K en σ G H en1 σ1 G1 H1) (b : StepS K en1 σ1 G1 H1 en2 σ2 G2 H2) : StepS K en σ G H en2 σ2 G2 H2 :=
  ⟨a.ext.trans b.ext a.own, b.sr, fun x h => by
    rcases b.own x h with q | q
    · exact a.own x q
    · exact .inr (a.ext.t x q), fun i d e => by
    obtain ⟨⟨d', e'⟩, s⟩ := a.lent i d e
    obtain ⟨l, s'⟩ := b.lent i d' e'
    exact ⟨l, s'.trans s⟩⟩

/-! ### what an expression hands back: shared, or (b) an object of nobody yet -/
def Res (K : PySem.W.Frag) (O : Addr → Prop) (H : Hp) (O' : Addr → Prop) (G' H' : Hp) (v : V) (d : D) (b : Bool) : Prop :=
  if b then ∃ a o, v = .ref a ∧ (H a = none ∨ O a) ∧ ¬ O' a ∧ H' a = some o ∧ G' a = none ∧ RepO K G' o d else Rep K G' v d
theorem Res.sh {O O' : Addr → Prop} {G' H' : Hp} {v : V} {d : D} (h : Rep K G' v d) : Res K O H O' G' H' v d false := h
theorem Res.new {O O' : Addr → Prop} {G' H' : Hp} {a : Addr} {o : HO} {d : D} (h1 : H a = none ∨ O a) (h2 : ¬ O' a) (h3 : H' a = some o) (h4 : G' a = none) (h5 : RepO K G' o d) : Res K O H O' G' H' (.ref a) d true :=
  ⟨a, o, rfl, h1, h2, h3, h4, h5⟩

/-- what is read of an operand -/
def Use (K : PySem.W.Frag) (G H : Hp) (v : V) (d : D) : Prop := Rep K G v d ∨ ∃ a o, v = .ref a ∧ H a = some o ∧ RepO K G o d
/-- an operand that waits: a shared value, a value (that may be nobody's), a slot that is read at the end -/
inductive Hd where
  | sv (d : D)
  | tv (d : D)
  | slot (i : Nat)
def peek (en : En) (i : Nat) : Option D := match en[i]? with
  | some (some (d, _)) => some d
  | _ => none
def Hd.late (en : En) : Hd → Option D
  | .sv d => some d
  | .tv d => some d
  | .slot i => peek en i
theorem peek_some {en : En} {i : Nat} {d : D} (h : peek en i = some d) : ∃ f, en[i]? = some (some (d, f)) := by
  unfold peek at h
  split at h
  · rename_i d' f q
    cases h
    exact ⟨f, q⟩
  · cases h
def lates (en : En) : List Hd → Option (List D)
  | [] => some []
  | h :: r => match h.late en, lates en r with
    | some d, some ds => some (d :: ds)
    | _, _ => none
def HoldR (K : PySem.W.Frag) (G H : Hp) (en : En) (σ : St) (v : V) : Hd → Prop
  | .sv d => Rep K G v d
  | .tv d => Rep K G v d ∨ ∃ a o, v = .ref a ∧ H a = some o ∧ G a = none ∧ ¬ OwnA en σ a ∧ RepO K G o d
  | .slot i => σ[i]? = some (some v)
inductive HoldRs (K : PySem.W.Frag) (G H : Hp) (en : En) (σ : St) : List V → List Hd → Prop
  | nil : HoldRs K G H en σ [] []
  | cons {v : V} {h : Hd} {vs : List V} {hs : List Hd} : HoldR K G H en σ v h → HoldRs K G H en σ vs hs → HoldRs K G H en σ (v :: vs) (h :: hs)
inductive Uses (K : PySem.W.Frag) (G H : Hp) : List V → List D → Prop
  | nil : Uses K G H [] []
  | cons {v : V} {d : D} {vs : List V} {ds : List D} : Use K G H v d → Uses K G H vs ds → Uses K G H (v :: vs) (d :: ds)
theorem HoldR.step {v : V} {h : Hd} (r : HoldR K G H en σ v h) (a : Step K en en1 σ G H G1 H1) : HoldR K G1 H1 en1 σ v h := by
  cases h with
  | sv d => exact Rep.mono a.ext.g r
  | tv d =>
    rcases r with r | ⟨x, o, e, h1, h2, h3, h4⟩
    · exact .inl (Rep.mono a.ext.g r)
    · exact .inr ⟨x, o, e, a.ext.h x o h1 h3, a.ext.n x o h1 h3 h2, fun q => h3 (a.own x q), h4.mono a.ext.g⟩
  | slot i => exact r
theorem HoldRs.step : ∀ {vs : List V} {hs : List Hd}, HoldRs K G H en σ vs hs → Step K en en1 σ G H G1 H1 → HoldRs K G1 H1 en1 σ vs hs
  | _, _, .nil, _ => .nil
  | _, _, .cons h r, a => .cons (h.step a) (HoldRs.step r a)
theorem HoldR.use {v : V} {h : Hd} {d : D} (S : SR K G H en σ) (r : HoldR K G H en σ v h) (e : h.late en = some d) : Use K G H v d := by
  cases h with
  | sv d' => cases e; exact .inl r
  | tv d' =>
    cases e
    rcases r with r | ⟨x, o, e, h1, h2, h3, h4⟩
    · exact .inl r
    · exact .inr ⟨x, o, e, h1, h4⟩
  | slot i =>
    obtain ⟨f, q⟩ := peek_some (show peek en i = some d from e)
    have r' : σ[i]? = some (some v) := r
    by_cases hf : f = .sh
    · subst hf
      obtain ⟨w, e1, e2⟩ := S.shd i _ q
      rw [r'] at e1; cases e1
      exact .inl e2
    · obtain ⟨a, o, e1, _, e3, e4⟩ := S.own i _ f q hf
      rw [r'] at e1; cases e1
      exact .inr ⟨a, o, rfl, e3, e4⟩
theorem HoldRs.uses (S : SR K G H en σ) : ∀ {vs : List V} {hs : List Hd} {ds : List D}, HoldRs K G H en σ vs hs → lates en hs = some ds → Uses K G H vs ds
  | _, _, _, .nil, e => by cases e; exact .nil
  | _, _, _, .cons h r, e => by
    unfold lates at e
    split at e
    · rename_i d ds e1 e2
      cases e
      exact .cons (h.use S e1) (HoldRs.uses S r e2)
    · cases e

/-! ### reading an operand's data -/
theorem Use.list {v : V} {ds : List D} (s : Same G H) (u : Use K G H v (.list ds)) : ∃ a xs, v = .ref a ∧ SqL K H a xs ∧ Reps K G xs ds := by
  rcases u with u | ⟨a, o, rfl, h, r⟩
  · cases u with
    | lst h r => exact ⟨_, _, rfl, s.seq h, r⟩
  · cases r with
    | lst r => exact ⟨a, _, rfl, .inl (.inl h), r⟩
theorem Use.tupG {v : V} {ds : List D} (u : Use K G H v (.tuple ds)) : ∃ a xs, v = .ref a ∧ TupG K G a xs ∧ Reps K G xs ds := by
  rcases u with u | ⟨a, o, rfl, h, r⟩
  · cases u with
    | tup h r => exact ⟨_, _, rfl, h, r⟩
  · cases r
theorem Use.tuple {v : V} {ds : List D} (s : Same G H) (u : Use K G H v (.tuple ds)) : ∃ a xs, v = .ref a ∧ SqT K H a xs ∧ Reps K G xs ds :=
  let ⟨a, xs, e, h, r⟩ := u.tupG
  ⟨a, xs, e, seqT s h.sq, r⟩
theorem Use.dict {v : V} {es : List (D × D)} (s : Same G H) (u : Use K G H v (.dict es)) : ∃ a kvs, v = .ref a ∧ Rd H a (.dK kvs) ∧ RepKV K G kvs es := by
  rcases u with u | ⟨a, o, rfl, h, r⟩
  · cases u with
    | dct h r => exact ⟨_, _, rfl, rdS s h, r⟩
  · cases r with
    | dK r => exact ⟨a, _, rfl, .inl h, r⟩
theorem Use.int {v : V} {i : Int} (u : Use K G H v (.int i)) : v = .int i := by
  rcases u with u | ⟨a, o, rfl, h, r⟩
  · cases u; rfl
  · cases r
theorem Use.str {v : V} {x : Str} (u : Use K G H v (.str x)) : v = .str x := by
  rcases u with u | ⟨a, o, rfl, h, r⟩
  · cases u; rfl
  · cases r
theorem Use.bool {v : V} {b : Bool} (u : Use K G H v (.bool b)) : v = .bl b := by
  rcases u with u | ⟨a, o, rfl, h, r⟩
  · cases u; rfl
  · cases r
theorem Use.none {v : V} (u : Use K G H v .none) : v = .non := by
  rcases u with u | ⟨a, o, rfl, h, r⟩
  · cases u; rfl
  · cases r
theorem Uses.one {vs : List V} {d : D} (u : Uses K G H vs [d]) : ∃ v, vs = [v] ∧ Use K G H v d := by
  cases u with
  | cons h r => cases r; exact ⟨_, rfl, h⟩
theorem Uses.two {vs : List V} {d e : D} (u : Uses K G H vs [d, e]) : ∃ v w, vs = [v, w] ∧ Use K G H v d ∧ Use K G H w e := by
  cases u with
  | cons h r => obtain ⟨w, rfl, h2⟩ := r.one; exact ⟨_, _, rfl, h, h2⟩
end

/-! ### the readings -/
abbrev Ev := En → Option (D × Bool × En)
abbrev Vv := En → Option (D × En)
abbrev Ov := En → Option (Hd × En)
abbrev Av := En → Option (List Hd × En)
abbrev Tv := En → Option (Bool × En)
inductive Out where
  | nx | rt (d : D) (b : Bool) | bk | ct
abbrev Sv := En → Option (Out × En)
section
variable (K : PySem.W.Frag)
def FE (f : Ev) : TE := fun σ H Q => ∃ G en d b en', SR K G H en σ ∧ f en = some (d, b, en') ∧ ∀ v G' H', Step K en en' σ G H G' H' → Res K (OwnA en σ) H (OwnA en' σ) G' H' v d b → Q v H'
def FV (f : Vv) : TE := fun σ H Q => ∃ G en d en', SR K G H en σ ∧ f en = some (d, en') ∧ ∀ v G' H', Step K en en' σ G H G' H' → Rep K G' v d → Q v H'
def FO (f : Ov) : TE := fun σ H Q => ∃ G en h en', SR K G H en σ ∧ f en = some (h, en') ∧ ∀ v G' H', Step K en en' σ G H G' H' → HoldR K G' H' en' σ v h → Q v H'
def FA (f : Av) : TA := fun σ H Q => ∃ G en hs en', SR K G H en σ ∧ f en = some (hs, en') ∧ ∀ vs G' H', Step K en en' σ G H G' H' → HoldRs K G' H' en' σ vs hs → Q vs H'
def FT (f : Tv) : TT := fun σ H Q => ∃ G en b en', SR K G H en σ ∧ f en = some (b, en') ∧ ∀ G' H', Step K en en' σ G H G' H' → Q b H'
def OutR (D : Ends) (en : En) (σ : St) (G H : Hp) (en' : En) : Out → Prop
  | .nx => ∀ G' H' σ', StepS K en σ G H en' σ' G' H' → D.nx σ' H'
  | .bk => ∀ G' H' σ', StepS K en σ G H en' σ' G' H' → D.bk σ' H'
  | .ct => ∀ G' H' σ', StepS K en σ G H en' σ' G' H' → D.ct σ' H'
  | .rt d b => ∀ v G' H' σ', StepS K en σ G H en' σ' G' H' → Res K (OwnA en σ) H (OwnA en' σ') G' H' v d b → D.rt v H'
def FS (g : Sv) : TS := fun D σ H => ∃ G en out en', SR K G H en σ ∧ g en = some (out, en') ∧ OutR K D en σ G H en' out
end
theorem pe_imp {X : Cx} {e : Expr} {t t' : TE} (h : PE X e t) (k : ∀ σ H Q, t' σ H Q → t σ H Q) : PE X e t' := ⟨fun pins s σ H Q I q => h.run pins s σ H Q I (k _ _ _ q)⟩
theorem pt_imp {X : Cx} {e : Expr} {t t' : TT} (h : PT X e t) (k : ∀ σ H Q, t' σ H Q → t σ H Q) : PT X e t' := ⟨fun pins s σ H Q I q => h.run pins s σ H Q I (k _ _ _ q)⟩
theorem pw_imp {X : Cx} {e : Expr} {t t' : TT} (h : PW X e t) (k : ∀ σ H Q, t' σ H Q → t σ H Q) : PW X e t' := ⟨fun wh pins s σ H Q I q => h.run wh pins s σ H Q I (k _ _ _ q)⟩
theorem pa_imp {X : Cx} {e : List Expr} {t t' : TA} (h : PA X e t) (k : ∀ σ H Q, t' σ H Q → t σ H Q) : PA X e t' := ⟨fun pos pins s σ H Q I q => h.run pos pins s σ H Q I (k _ _ _ q)⟩
theorem ps_imp {X : Cx} {e : Stmt} {t t' : TS} (h : PS X e t) (k : ∀ D σ H, t' D σ H → t D σ H) : PS X e t' := ⟨fun pins s σ H D I q => h.run pins s σ H D I (k _ _ _ q)⟩
theorem pss_imp {X : Cx} {e : List Stmt} {t t' : TS} (h : PSs X e t) (k : ∀ D σ H, t' D σ H → t D σ H) : PSs X e t' := ⟨fun pins s σ H D I q => h.run pins s σ H D I (k _ _ _ q)⟩
end Fx
/-! Fx1: names, constants, operands, operators, tests, displays. -/
namespace Fx
open PySem PySem.Spec L2
section
variable {K : PySem.W.Frag} {G H G1 H1 : Hp} {en en1 : En} {σ : St}

theorem same_upd {a : Addr} {o : HO} (h : G a = none) : Same G (upd G a o) := fun b u e => by
  rw [upd_ne (ne_of_none e h)]
  exact e
/-- an object of nobody is shared from now on -/
theorem SR.share {a : Addr} {o : HO} (S : SR K G H en σ) (h1 : H a = some o) (h2 : G a = none) (h3 : ¬ OwnA en σ a) : SR K (upd G a o) H en σ := by
  have s := same_upd (o := o) h2
  refine ⟨fun b u e => ?_, S.len, fun i d e => ?_, fun i d f e n => ?_, S.sep⟩
  · by_cases hb : b = a
    · subst hb
      rw [upd_same] at e
      cases e
      exact h1
    · rw [upd_ne hb] at e
      exact S.sub b u e
  · obtain ⟨v, e1, e2⟩ := S.shd i d e
    exact ⟨v, e1, e2.mono s⟩
  · obtain ⟨b, u, e1, e2, e3, e4⟩ := S.own i d f e n
    have hb : b ≠ a := fun z => h3 ⟨i, d, f, e, n, by rw [← z]; exact e1⟩
    exact ⟨b, u, e1, by rw [upd_ne hb]; exact e2, e3, e4.mono s⟩
theorem Step.share {a : Addr} {o : HO} (T : Step K en en1 σ G H G1 H1) (h0 : H a = none ∨ OwnA en σ a) (h1 : H1 a = some o) (h2 : G1 a = none) (h3 : ¬ OwnA en1 σ a) : Step K en en1 σ G H (upd G1 a o) H1 := by
  refine ⟨⟨T.ext.g.trans (same_upd h2), T.ext.h, fun b u e n g => ?_, T.ext.t⟩, T.sr.share h1 h2 h3, T.own, T.lent⟩
  have hb : b ≠ a := fun z => by
    subst z
    rcases h0 with h0 | h0
    · rw [h0] at e; cases e
    · exact n h0
  rw [upd_ne hb]
  exact T.ext.n b u e n g
/-- a slot's own object is shared from now on -/
theorem own_set {i : Nat} {d : D} {f : Fl} {b : Addr} (e : en[i]? = some (some (d, f))) (hf : f ≠ .sh) {d' : D} (h : OwnA (en.set i (some (d', .sh))) σ b) : OwnA en σ b := by
  obtain ⟨j, d2, g, e1, n, s⟩ := h
  by_cases hj : j = i
  · subst hj
    rw [List.getElem?_set_self (List.getElem?_eq_some_iff.mp e).1] at e1
    cases e1
    exact absurd rfl n
  · rw [List.getElem?_set_ne (Ne.symm hj)] at e1
    exact ⟨j, d2, g, e1, n, s⟩
theorem SR.demote {i : Nat} {d : D} (S : SR K G H en σ) (e : en[i]? = some (some (d, .own))) : ∃ (a : Addr) (o : HO), σ[i]? = some (some (.ref a)) ∧ Rep K (upd G a o) (.ref a) d ∧ Step K en (en.set i (some (d, .sh))) σ G H (upd G a o) H := by
  obtain ⟨a, o, e1, e2, e3, e4⟩ := S.own i d .own e (by decide)
  have hi : i < en.length := (List.getElem?_eq_some_iff.mp e).1
  have s := same_upd (o := o) e2
  have r : Rep K (upd G a o) (.ref a) d := (e4.mono s).rep upd_same
  have me : OwnA en σ a := ⟨i, d, .own, e, by decide, e1⟩
  refine ⟨a, o, e1, r, ⟨⟨s, fun b u h _ => h, fun b u h n g => ?_, fun _ h => h⟩, ⟨fun b u h => ?_, by simpa using S.len, fun j d2 h => ?_, fun j d2 f h n => ?_, fun j k d2 d3 f g b h1 n1 h2 n2 => ?_⟩, fun b h => own_set e (by decide) h, fun j d2 h => ?_⟩⟩
  · have hb : b ≠ a := fun z => n (by rw [z]; exact me)
    rw [upd_ne hb]
    exact g
  · by_cases hb : b = a
    · subst hb
      rw [upd_same] at h
      cases h
      exact e3
    · rw [upd_ne hb] at h
      exact S.sub b u h
  · by_cases hj : j = i
    · subst hj
      rw [List.getElem?_set_self hi] at h
      cases h
      exact ⟨_, e1, r⟩
    · rw [List.getElem?_set_ne (Ne.symm hj)] at h
      obtain ⟨v, q1, q2⟩ := S.shd j d2 h
      exact ⟨v, q1, q2.mono s⟩
  · by_cases hj : j = i
    · subst hj
      rw [List.getElem?_set_self hi] at h
      cases h
      exact absurd rfl n
    · rw [List.getElem?_set_ne (Ne.symm hj)] at h
      obtain ⟨b, u, q1, q2, q3, q4⟩ := S.own j d2 f h n
      have hb : b ≠ a := fun z => by
        subst z
        exact hj (S.sep j i d2 d f .own b h n e (by decide) q1 e1)
      exact ⟨b, u, q1, by rw [upd_ne hb]; exact q2, q3, q4.mono s⟩
  · have no : ∀ (j : Nat) (d2 : D) (f : Fl), (en.set i (some (d, .sh)))[j]? = some (some (d2, f)) → f ≠ .sh → en[j]? = some (some (d2, f)) := fun j d2 f h n => by
      by_cases hj : j = i
      · subst hj
        rw [List.getElem?_set_self hi] at h
        cases h
        exact absurd rfl n
      · rw [List.getElem?_set_ne (Ne.symm hj)] at h
        exact h
    exact S.sep j k d2 d3 f g b (no j d2 f h1 n1) n1 (no k d3 g h2 n2) n2
  · have hj : j ≠ i := fun z => by
      subst z
      rw [e] at h
      cases h
    exact ⟨d2, by rw [List.getElem?_set_ne (Ne.symm hj)]; exact h⟩
/-- nothing is written: new objects alone, shared or nobody's -/
structure New (G H G1 H1 : Hp) : Prop where
  ext : Ext (fun _ => False) G H G1 H1
  sub : Same G1 H1
theorem New.refl (s : Same G H) : New G H G H := ⟨Ext.refl, s⟩
theorem New.step (S : SR K G H en σ) (E : New G H G1 H1) : Step K en en σ G H G1 H1 := by
  have sub : Same H H1 := fun b u h => E.ext.h b u h (fun z => z)
  refine ⟨E.ext.weak fun _ _ z _ => z.elim, ⟨E.sub, S.len, fun i d e => ?_, fun i d f e n => ?_, S.sep⟩, fun _ h => h, fun _ d e => ⟨d, e⟩⟩
  · obtain ⟨v, e1, e2⟩ := S.shd i d e
    exact ⟨v, e1, e2.mono E.ext.g⟩
  · obtain ⟨a, o, e1, e2, e3, e4⟩ := S.own i d f e n
    exact ⟨a, o, e1, E.ext.n a o e3 (fun z => z) e2, sub a o e3, e4.mono E.ext.g⟩
/-- a new object of nobody -/
theorem New.own {p : Addr} {o : HO} (s : Same G H) (hp : H p = none) : New G H G (upd H p o) := by
  refine ⟨⟨Same.refl _, fun b u e _ => ?_, fun _ _ _ _ g => g, fun b e => ?_⟩, fun b u e => ?_⟩
  · rw [upd_ne (ne_of_none e hp)]; exact e
  · by_cases hb : b = p
    · rw [hb]; exact hp
    · rw [upd_ne hb] at e; exact e
  · rw [upd_ne (ne_of_none (s b u e) hp)]; exact s b u e
/-- a new object that is shared at once -/
theorem New.shd {p : Addr} {o : HO} (s : Same G H) (hp : H p = none) : New G H (upd G p o) (upd H p o) := by
  have gp : G p = none := s.free hp
  refine ⟨⟨same_upd gp, fun b u e _ => ?_, fun b u e _ g => ?_, fun b e => ?_⟩, fun b u e => ?_⟩
  · rw [upd_ne (ne_of_none e hp)]; exact e
  · rw [upd_ne (ne_of_none e hp)]; exact g
  · by_cases hb : b = p
    · rw [hb]; exact hp
    · rw [upd_ne hb] at e; exact e
  · by_cases hb : b = p
    · subst hb; rw [upd_same] at e ⊢; exact e
    · rw [upd_ne hb] at e ⊢; exact s b u e
/-- a result over new objects alone -/
def Fresh (K : PySem.W.Frag) (H G1 H1 : Hp) (v : V) (d : D) (b : Bool) : Prop := Res K (fun _ => False) H (fun _ => False) G1 H1 v d b
theorem Fresh.res {v : V} {d : D} {b : Bool} (S : SR K G H en σ) (h : Fresh K H G1 H1 v d b) : Res K (OwnA en σ) H (OwnA en σ) G1 H1 v d b := by
  cases b with
  | false => exact h
  | true =>
    obtain ⟨a, o, e, h1, _, h3, h4, h5⟩ := h
    have hn : H a = none := h1.resolve_right fun z => z
    refine ⟨a, o, e, .inl hn, fun q => ?_, h3, h4, h5⟩
    obtain ⟨u, e1, _⟩ := S.there q
    rw [hn] at e1
    cases e1
theorem Fresh.res' {G2 H2 : Hp} {v : V} {d : D} {b : Bool} (T : Step K en en1 σ G H G1 H1) (h : Fresh K H1 G2 H2 v d b) : Res K (OwnA en σ) H (OwnA en1 σ) G2 H2 v d b := by
  have q := Fresh.res T.sr h
  cases b with
  | false => exact h
  | true =>
    obtain ⟨a, o, e, q1, q2, q3, q4, q5⟩ := q
    refine ⟨a, o, e, ?_, q2, q3, q4, q5⟩
    rcases q1 with q1 | q1
    · exact .inl (T.ext.t a q1)
    · exact .inr (T.own a q1)
theorem Fresh.sh {v : V} {d : D} (h : Rep K G1 v d) : Fresh K H G1 H1 v d false := h
theorem Fresh.new {p : Addr} {o : HO} {d : D} (s : Same G H) (hp : H p = none) (r : RepO K G o d) : Fresh K H G (upd H p o) (.ref p) d true :=
  ⟨p, o, rfl, .inl hp, fun z => z, upd_same, s.free hp, r⟩
end

/-! ### from one form to another -/
section
variable {X : Cx} {e : Expr} {pos : Pos}
def toV (f : Ev) : Vv := fun en => match f en with
  | some (d, _, en') => some (d, en')
  | none => none
def ofV (f : Vv) : Ev := fun en => match f en with
  | some (d, en') => some (d, false, en')
  | none => none
def toO (f : Ev) : Ov := fun en => match f en with
  | some (d, _, en') => some (.tv d, en')
  | none => none
def svO (f : Vv) : Ov := fun en => match f en with
  | some (d, en') => some (.sv d, en')
  | none => none
theorem res_share {K : PySem.W.Frag} {G H G1 H1 : Hp} {en en1 : En} {σ : St} {v : V} {d : D} {b : Bool} (T : Step K en en1 σ G H G1 H1) (r : Res K (OwnA en σ) H (OwnA en1 σ) G1 H1 v d b) : ∃ G2, Step K en en1 σ G H G2 H1 ∧ Rep K G2 v d := by
  cases b with
  | false => exact ⟨G1, T, r⟩
  | true =>
    obtain ⟨a, o, rfl, h1, h2, h3, h4, h5⟩ := r
    exact ⟨_, T.share (h1) h3 h4 h2, (h5.mono (same_upd h4)).rep upd_same⟩
theorem fv_e {f : Ev} (h : PE X e (FE X.K f)) : PE X e (FV X.K (toV f)) := pe_imp h fun σ H Q ⟨G, en, d, en', S, e1, k⟩ => by
  unfold toV at e1
  split at e1
  · rename_i d' b en2 e2
    cases e1
    exact ⟨G, en, _, b, _, S, e2, fun v G' H' T r => let ⟨G2, T2, r2⟩ := res_share T r; k v G2 H' T2 r2⟩
  · cases e1
theorem fe_v {f : Vv} (h : PE X e (FV X.K f)) : PE X e (FE X.K (ofV f)) := pe_imp h fun σ H Q ⟨G, en, d, b, en', S, e1, k⟩ => by
  unfold ofV at e1
  split at e1
  · rename_i d' en2 e2
    cases e1
    exact ⟨G, en, _, _, S, e2, fun v G' H' T r => k v G' H' T r⟩
  · cases e1
theorem fo_e {f : Ev} (h : PE X e (FE X.K f)) : PE X e (FO X.K (toO f)) := pe_imp h fun σ H Q ⟨G, en, hd, en', S, e1, k⟩ => by
  unfold toO at e1
  split at e1
  · rename_i d' b en2 e2
    cases e1
    refine ⟨G, en, _, b, _, S, e2, fun v G' H' T r => k v G' H' T ?_⟩
    cases b with
    | false => exact .inl r
    | true =>
      obtain ⟨a, o, rfl, h1, h2, h3, h4, h5⟩ := r
      exact .inr ⟨a, o, rfl, h3, h4, h2, h5⟩
  · cases e1
theorem fo_v {f : Vv} (h : PE X e (FV X.K f)) : PE X e (FO X.K (svO f)) := pe_imp h fun σ H Q ⟨G, en, hd, en', S, e1, k⟩ => by
  unfold svO at e1
  split at e1
  · rename_i d' en2 e2
    cases e1
    exact ⟨G, en, _, _, S, e2, fun v G' H' T r => k v G' H' T r⟩
  · cases e1

/-! ### names, constants -/
def fName (i : Nat) : Vv := fun en => match en[i]? with
  | some (some (d, .sh)) => some (d, en)
  | some (some (d, .own)) => some (d, en.set i (some (d, .sh)))
  | _ => none
def fSlot (i : Nat) : Ov := fun en => match peek en i with
  | some _ => some (.slot i, en)
  | none => none
theorem fv_name {i : Nat} (h : PE X e (tVar i)) : PE X e (FV X.K (fName i)) := pe_imp h fun σ H Q ⟨G, en, d, en', S, e1, k⟩ => by
  unfold fName at e1
  split at e1
  · rename_i d' e2
    cases e1
    obtain ⟨v, q1, q2⟩ := S.shd i _ e2
    exact ⟨v, q1, k v G H (Step.refl S) q2⟩
  · rename_i d' e2
    cases e1
    obtain ⟨a, o, q1, q2, q3⟩ := S.demote e2
    exact ⟨_, q1, k _ _ _ q3 q2⟩
  · cases e1
theorem fo_name {i : Nat} (h : PE X e (tVar i)) : PE X e (FO X.K (fSlot i)) := pe_imp h fun σ H Q ⟨G, en, hd, en', S, e1, k⟩ => by
  unfold fSlot at e1
  split at e1
  · rename_i d e2
    cases e1
    obtain ⟨f, q⟩ := peek_some e2
    by_cases hf : f = .sh
    · subst hf
      obtain ⟨v, q1, q2⟩ := S.shd i _ q
      exact ⟨v, q1, k v G H (Step.refl S) q1⟩
    · obtain ⟨a, o, q1, q2, q3, q4⟩ := S.own i _ f q hf
      exact ⟨_, q1, k _ G H (Step.refl S) q1⟩
  · cases e1
def fC (d : D) : Vv := fun en => some (d, en)
theorem fv_c {v : V} {d : D} (h : PE X e (tC v)) (r : ∀ G, Rep X.K G v d) : PE X e (FV X.K (fC d)) := pe_imp h fun σ H Q ⟨G, en, d', en', S, e1, k⟩ => by
  cases e1
  exact k v G H (Step.refl S) (r G)
theorem fv_int {i : Int} {j} : PE X (.Constant (.int i) j pos) (FV X.K (fC (.int i))) := fv_c pe_int fun _ => .int i
theorem fv_bl {b : Bool} {j} : PE X (.Constant (.bool b) j pos) (FV X.K (fC (.bool b))) := fv_c pe_bl fun _ => .bl b
theorem fv_non {j} : PE X (.Constant .none j pos) (FV X.K (fC .none)) := fv_c pe_non fun _ => .non
theorem fv_str {x : Str} {j} : PE X (.Constant (.str x) j pos) (FV X.K (fC (.str x))) := fv_c pe_str fun _ => .str x

/-! ### argument lists -/
def aNil : Av := fun en => some ([], en)
def aCons (p : Ov) (r : Av) : Av := fun en => match p en with
  | some (h, en1) => (match r en1 with
    | some (hs, en2) => some (h :: hs, en2)
    | none => none)
  | none => none
theorem fa_nil : PA X [] (FA X.K aNil) := pa_imp pa_nil fun σ H Q ⟨G, en, hs, en', S, e1, k⟩ => by
  cases e1
  exact k [] G H (Step.refl S) .nil
theorem fa_cons {es : List Expr} {p : Ov} {r : Av} (h : PE X e (FO X.K p)) (hr : PA X es (FA X.K r)) (hs : starEach (e :: es) X.env = (false, eval e X.env) :: starEach es X.env := by rfl) : PA X (e :: es) (FA X.K (aCons p r)) :=
  pa_imp (pa_cons h hr hs) fun σ H Q ⟨G, en, hs, en', S, e1, k⟩ => by
    unfold aCons at e1
    split at e1
    · rename_i h1 en1 e2
      split at e1
      · rename_i hs2 en2 e3
        cases e1
        refine ⟨G, en, _, _, S, e2, fun v G1 H1 T1 r1 => ⟨G1, en1, _, _, T1.sr, e3, fun vs G2 H2 T2 r2 => k _ G2 H2 (T1.trans T2) (.cons (r1.step T2) r2)⟩⟩
      · cases e1
    · cases e1
/-- values that are kept: all shared -/
abbrev Lv := En → Option (List D × En)
def FL (K : PySem.W.Frag) (f : Lv) : TA := fun σ H Q => ∃ G en ds en', SR K G H en σ ∧ f en = some (ds, en') ∧ ∀ vs G' H', Step K en en' σ G H G' H' → Reps K G' vs ds → Q vs H'
def lNil : Lv := fun en => some ([], en)
def lCons (p : Vv) (r : Lv) : Lv := fun en => match p en with
  | some (d, en1) => (match r en1 with
    | some (ds, en2) => some (d :: ds, en2)
    | none => none)
  | none => none
theorem fl_nil : PA X [] (FL X.K lNil) := pa_imp pa_nil fun σ H Q ⟨G, en, hs, en', S, e1, k⟩ => by
  cases e1
  exact k [] G H (Step.refl S) .nil
theorem fl_cons {es : List Expr} {p : Vv} {r : Lv} (h : PE X e (FV X.K p)) (hr : PA X es (FL X.K r)) (hs : starEach (e :: es) X.env = (false, eval e X.env) :: starEach es X.env := by rfl) : PA X (e :: es) (FL X.K (lCons p r)) :=
  pa_imp (pa_cons h hr hs) fun σ H Q ⟨G, en, hs, en', S, e1, k⟩ => by
    unfold lCons at e1
    split at e1
    · rename_i h1 en1 e2
      split at e1
      · rename_i hs2 en2 e3
        cases e1
        refine ⟨G, en, _, _, S, e2, fun v G1 H1 T1 r1 => ⟨G1, en1, _, _, T1.sr, e3, fun vs G2 H2 T2 r2 => k _ G2 H2 (T1.trans T2) (.cons (r1.mono T2.ext.g) r2)⟩⟩
      · cases e1
    · cases e1

/-! ### displays -/
def fTup (r : Lv) : Vv := fun en => match r en with
  | some (ds, en') => if ds.length ≤ sizeLine then some (.tuple ds, en') else none
  | none => none
def fLst (r : Lv) : Ev := fun en => match r en with
  | some (ds, en') => if ds.length ≤ sizeLine then some (.list ds, true, en') else none
  | none => none
/-- a tuple that is made, its exact object told -/
def tTupZ (t : TA) : TE := fun σ H Q => t σ H fun xs H1 => xs.length ≤ sizeLine ∧ ∀ p o, H1 p = none → o.dict = none → Q (.ref p) (upd H1 p (.frz o (.tup xs)))
theorem inv_tupZ {pins : List (Addr × Obj)} {σ : St} {H : Hp} {s : Shared} {xs : List V} {us : List Value} (I : Inv X pins σ H s) (r : Vals xs us) (hz : xs.length ≤ sizeLine) :
    Inv X pins σ (upd H s.heap.objs.size (.frz { cls := .type "tuple", data := .seq us.toArray } (.tup xs))) { s with heap := s.heap.push { cls := .type "tuple", data := .seq us.toArray } } :=
  I.laid (t' := s.toks) (fun b u e => Heap.get?_push_of_some _ e) (Nat.le_refl _) ⟨Heap.get?_push_size _ rfl, hz, us, r, ⟨_, Heap.get?_push_size _ rfl, rfl, _, rfl⟩⟩
theorem pe_tupZ {es : List Expr} {t : TA} {x1} (h : PA X es t) : PE X (.Tuple es x1 pos) (tTupZ t) := ⟨fun pins s σ H Q I hq =>
  wpAny_Tuple_spliced (thn (h.run pos pins s σ H _ I hq) fun us s1 ⟨xs, H1, I1, r, z, q⟩ => ⟨by rw [← r.length]; exact z, .ref _, _, inv_tupZ I1 r z, rfl, q _ _ (I1.hok.fresh (Nat.le_refl _)) rfl⟩)⟩
theorem fv_tup {es : List Expr} {r : Lv} {x1} (h : PA X es (FL X.K r)) : PE X (.Tuple es x1 pos) (FV X.K (fTup r)) := pe_imp (pe_tupZ h) fun σ H Q ⟨G, en, d, en', S, e1, k⟩ => by
  unfold fTup at e1
  split at e1
  · rename_i ds en2 e2
    split at e1
    · rename_i hl
      cases e1
      refine ⟨G, en, _, _, S, e2, fun vs G1 H1 T r => ⟨by rw [r.length]; exact hl, fun p o hp ho => ?_⟩⟩
      have N := New.shd (o := .frz o (.tup vs)) T.sr.sub hp
      exact k _ _ _ (T.trans (N.step T.sr)) (.tup (.inl ⟨o, upd_same, ho⟩) (r.mono N.ext.g))
    · cases e1
  · cases e1
theorem fe_lst {es : List Expr} {r : Lv} (h : PA X es (FL X.K r)) : PE X (.List es pos) (FE X.K (fLst r)) := pe_imp (pe_lst h) fun σ H Q ⟨G, en, d, b, en', S, e1, k⟩ => by
  unfold fLst at e1
  split at e1
  · rename_i ds en2 e2
    split at e1
    · rename_i hl
      cases e1
      refine ⟨G, en, _, _, S, e2, fun vs G1 H1 T r => ⟨by rw [r.length]; exact hl, fun p hp => ?_⟩⟩
      have N := New.own (o := .lst vs) T.sr.sub hp
      refine k _ _ _ (T.trans (N.step T.sr)) ?_
      exact Fresh.res' T (Fresh.new (o := .lst vs) T.sr.sub hp (.lst r))
    · cases e1
  · cases e1
end
end Fx
/-! Fx2: operators, calls, tests. -/
namespace Fx
open PySem PySem.Spec L2
/-- from what is asked of the data to what the rule asks -/
def Op1 (K : PySem.W.Frag) (r : V → Hp → VK → Prop) (g : D → Option (D × Bool)) : Prop := ∀ x d z b G H Q, Same G H → Use K G H x d → g d = some (z, b) → (∀ v G' H', New G H G' H' → Fresh K H G' H' v z b → Q v H') → r x H Q
def Op2 (K : PySem.W.Frag) (r : R2) (g : D → D → Option (D × Bool)) : Prop := ∀ x y d e z b G H Q, Same G H → Use K G H x d → Use K G H y e → g d e = some (z, b) → (∀ v G' H', New G H G' H' → Fresh K H G' H' v z b → Q v H') → r x y H Q
def OpN (K : PySem.W.Frag) (r : List V → Hp → VK → Prop) (g : List D → Option (D × Bool)) : Prop := ∀ vs ds z b G H Q, Same G H → Uses K G H vs ds → g ds = some (z, b) → (∀ v G' H', New G H G' H' → Fresh K H G' H' v z b → Q v H') → r vs H Q

def f1 (p : Ov) (g : D → Option (D × Bool)) : Ev := fun en => (p en).bind fun x => (x.1.late x.2).bind fun d => (g d).map fun z => (z.1, z.2, x.2)
def f2 (p q : Ov) (g : D → D → Option (D × Bool)) : Ev := fun en => (p en).bind fun x => (q x.2).bind fun y => (x.1.late y.2).bind fun d => (y.1.late y.2).bind fun e => (g d e).map fun z => (z.1, z.2, y.2)
def fN (a : Av) (g : List D → Option (D × Bool)) : Ev := fun en => (a en).bind fun x => (lates x.2 x.1).bind fun ds => (g ds).map fun z => (z.1, z.2, x.2)
section
variable {X : Cx} {a b e : Expr} {pos : Pos} {K : PySem.W.Frag}
theorem t1_of {r : V → Hp → VK → Prop} {p : Ov} {g : D → Option (D × Bool)} (o : Op1 K r g) {σ : St} {H : Hp} {Q : VK} (h : FE K (f1 p g) σ H Q) : tUn r (FO K p) σ H Q := by
  obtain ⟨G, en, z, b, en', S, e1, k⟩ := h
  obtain ⟨⟨x, en1⟩, p1, e2⟩ := Option.bind_eq_some_iff.mp e1
  obtain ⟨d, p3, e4⟩ := Option.bind_eq_some_iff.mp e2
  obtain ⟨⟨z', b'⟩, p5, e6⟩ := Option.map_eq_some_iff.mp e4
  cases e6
  refine ⟨G, en, x, en1, S, p1, fun v G1 H1 T1 r1 => ?_⟩
  exact o v d _ _ G1 H1 Q T1.sr.sub (r1.use T1.sr p3) p5 fun v G' H' N F => k v G' H' (T1.trans (N.step T1.sr)) (F.res' T1)
theorem t2_of {r : R2} {p q : Ov} {g : D → D → Option (D × Bool)} (o : Op2 K r g) {σ : St} {H : Hp} {Q : VK} (h : FE K (f2 p q g) σ H Q) : tOp r (FO K p) (FO K q) σ H Q := by
  obtain ⟨G, en, z, b, en', S, e1, k⟩ := h
  obtain ⟨⟨x, en1⟩, p1, e2⟩ := Option.bind_eq_some_iff.mp e1
  obtain ⟨⟨y, en2⟩, p2, e3⟩ := Option.bind_eq_some_iff.mp e2
  obtain ⟨d, p3, e4⟩ := Option.bind_eq_some_iff.mp e3
  obtain ⟨e, p4, e5⟩ := Option.bind_eq_some_iff.mp e4
  obtain ⟨⟨z', b'⟩, p5, e6⟩ := Option.map_eq_some_iff.mp e5
  cases e6
  refine ⟨G, en, x, en1, S, p1, fun v G1 H1 T1 r1 => ⟨G1, en1, y, en2, T1.sr, p2, fun w G2 H2 T2 r2 => ?_⟩⟩
  exact o v w d e _ _ G2 H2 Q T2.sr.sub ((r1.step T2).use T2.sr p3) (r2.use T2.sr p4) p5 fun v G' H' N F => k v G' H' ((T1.trans T2).trans (N.step T2.sr)) (F.res' (T1.trans T2))
theorem tN_of {r : List V → Hp → VK → Prop} {a : Av} {g : List D → Option (D × Bool)} (o : OpN K r g) {σ : St} {H : Hp} {Q : VK} (h : FE K (fN a g) σ H Q) : tCB r (FA K a) σ H Q := by
  obtain ⟨G, en, z, b, en', S, e1, k⟩ := h
  obtain ⟨⟨x, en1⟩, p1, e2⟩ := Option.bind_eq_some_iff.mp e1
  obtain ⟨ds, p3, e4⟩ := Option.bind_eq_some_iff.mp e2
  obtain ⟨⟨z', b'⟩, p5, e6⟩ := Option.map_eq_some_iff.mp e4
  cases e6
  refine ⟨G, en, x, en1, S, p1, fun v G1 H1 T1 r1 => ?_⟩
  exact o v ds _ _ G1 H1 Q T1.sr.sub (r1.uses T1.sr p3) p5 fun v G' H' N F => k v G' H' (T1.trans (N.step T1.sr)) (F.res' T1)
theorem fe_op {op : Operator} {r : R2} {p q : Ov} {g : D → D → Option (D × Bool)} (o : Op2 X.K r g) (ho : OpR X (binaryOp op) r) (ha : PE X a (FO X.K p)) (hb : PE X b (FO X.K q)) : PE X (.BinOp a op b pos) (FE X.K (f2 p q g)) :=
  pe_imp (pe_op ho ha hb) fun _ _ _ h => t2_of o h
theorem fe_un {op : UnaryOp} {r : V → Hp → VK → Prop} {p : Ov} {g : D → Option (D × Bool)} (o : Op1 X.K r g) (ho : UnR X (unaryOp op) r) (ha : PE X a (FO X.K p)) : PE X (.UnaryOp op a pos) (FE X.K (f1 p g)) :=
  pe_imp (pe_un ho ha) fun _ _ _ h => t1_of o h
theorem fe_cmp {op : CmpOp} {r : R2} {p q : Ov} {g : D → D → Option (D × Bool)} (o : Op2 X.K r g) (ho : OpR X (compareOp op) r) (ha : PE X a (FO X.K p)) (hb : PE X b (FO X.K q)) (hm : behindInMarks op b = false) : PE X (.Compare a [op] [b] pos) (FE X.K (f2 p q g)) :=
  pe_imp (pe_cmpR ho ha hb hm) fun _ _ _ h => t2_of o h
theorem fe_ix {r : R2} {p q : Ov} {g : D → D → Option (D × Bool)} (o : Op2 X.K r g) (ho : IxR X r) (ha : PE X a (FO X.K p)) (hb : PE X b (FO X.K q)) (hs : PlainIx b) : PE X (.Subscript a b pos) (FE X.K (f2 p q g)) :=
  pe_imp (pe_ix ho ha hb hs) fun _ _ _ h => t2_of o h
theorem fe_callB {x : Str} {p : Pos} {es : List Expr} {id : String} {r : List V → Hp → VK → Prop} {l : Av} {g : List D → Option (D × Bool)} (o : OpN X.K r g) (hc : CallR X (.builtin id) r) (hm : X.mg x = none) (ha : PA X (e :: es) (FA X.K l)) (hv : bootBuiltins x = some (.builtin id) := by decide +kernel) (hg : Gl X x := by rfl)
    (hn : x ≠ "__name__" := by decide) (hdb : (x == ("__debug__" : Str)) = false := by decide) (he : starEach (e :: es) X.env = (false, eval e X.env) :: starEach es X.env := by rfl) (hpl : (backTo pos (starEach es X.env)).any (·.1) = false := by rfl) : PE X (.Call (.Name x p) (e :: es) [] pos) (FE X.K (fN l g)) :=
  pe_imp (pe_callB hc hg hm hv ha hn hdb he hpl) fun _ _ _ h => tN_of o h
theorem fe_callTy {x : Str} {p : Pos} {es : List Expr} {T : String} {r : List V → Hp → VK → Prop} {l : Av} {g : List D → Option (D × Bool)} (o : OpN X.K r g) (hc : CallR X (.type T) r) (hm : X.mg x = none) (ha : PA X (e :: es) (FA X.K l)) (hv : bootBuiltins x = some (.type T) := by decide +kernel) (hg : Gl X x := by rfl)
    (hn : x ≠ "__name__" := by decide) (hdb : (x == ("__debug__" : Str)) = false := by decide) (he : starEach (e :: es) X.env = (false, eval e X.env) :: starEach es X.env := by rfl) (hpl : (backTo pos (starEach es X.env)).any (·.1) = false := by rfl) : PE X (.Call (.Name x p) (e :: es) [] pos) (FE X.K (fN l g)) :=
  pe_imp (pe_callTy hc hg hm hv ha hn hdb he hpl) fun _ _ _ h => tN_of o h

/-! ### slices -/
abbrev Pv := En → Option (Option Int × En)
def FP (K : PySem.W.Frag) (f : Pv) : TO := fun σ H Q => ∃ G en o en', SR K G H en σ ∧ f en = some (o, en') ∧ ∀ G' H', Step K en en' σ G H G' H' → Q o H'
def pNone : Pv := fun en => some (none, en)
def pInt (p : Ov) : Pv := fun en => (p en).bind fun x => (x.1.late x.2).bind fun d => match d with
  | .int i => some (some i, x.2)
  | _ => none
theorem fp_none : PO X none (FP X.K pNone) := ⟨fun pins s σ H Q I ⟨G, en, o, en', S, e1, k⟩ => by
  cases e1
  exact po_none.run pins s σ H Q I (k G H (Step.refl S))⟩
theorem fp_some {p : Ov} (h : PE X e (FO X.K p)) : PO X (some e) (FP X.K (pInt p)) := ⟨fun pins s σ H Q I ⟨G, en, o, en', S, e1, k⟩ => by
  refine (po_some h).run pins s σ H Q I ?_
  obtain ⟨⟨x, en1⟩, p1, e2⟩ := Option.bind_eq_some_iff.mp e1
  obtain ⟨d, p3, e4⟩ := Option.bind_eq_some_iff.mp e2
  refine ⟨G, en, x, en1, S, p1, fun v G1 H1 T1 r1 => ?_⟩
  have u := r1.use T1.sr p3
  cases d <;> first | (cases e4; done) | skip
  rename_i i
  cases e4
  exact ⟨i, u.int, k G1 H1 T1⟩⟩
def OpS (K : PySem.W.Frag) (r : V → Option Int → Option Int → Hp → VK → Prop) (g : D → Option Int → Option Int → Option (D × Bool)) : Prop :=
  ∀ x d l h z b G H Q, Same G H → Use K G H x d → g d l h = some (z, b) → (∀ v G' H', New G H G' H' → Fresh K H G' H' v z b → Q v H') → r x l h H Q
def fSl (p : Ov) (l h : Pv) (g : D → Option Int → Option Int → Option (D × Bool)) : Ev := fun en => (p en).bind fun x => (l x.2).bind fun y => (h y.2).bind fun w => (x.1.late w.2).bind fun d => (g d y.1 w.1).map fun z => (z.1, z.2, w.2)
theorem fe_slice {lo hi : Option Expr} {p2 : Pos} {r : V → Option Int → Option Int → Hp → VK → Prop} {p : Ov} {l h : Pv} {g : D → Option Int → Option Int → Option (D × Bool)} (o : OpS X.K r g) (hr : SlR X r) (he : PE X e (FO X.K p)) (hl : PO X lo (FP X.K l)) (hu : PO X hi (FP X.K h)) :
    PE X (.Subscript e (.Slice lo hi none p2) pos) (FE X.K (fSl p l h g)) := pe_imp (pe_slice hr he hl hu) fun σ H Q ⟨G, en, z, b, en', S, e1, k⟩ => by
  obtain ⟨⟨x, en1⟩, p1, e2⟩ := Option.bind_eq_some_iff.mp e1
  obtain ⟨⟨y, en2⟩, p2, e3⟩ := Option.bind_eq_some_iff.mp e2
  obtain ⟨⟨w, en3⟩, p3, e4⟩ := Option.bind_eq_some_iff.mp e3
  obtain ⟨d, p4, e5⟩ := Option.bind_eq_some_iff.mp e4
  obtain ⟨⟨z', b'⟩, p5, e6⟩ := Option.map_eq_some_iff.mp e5
  cases e6
  refine ⟨G, en, x, en1, S, p1, fun v G1 H1 T1 r1 => ⟨G1, en1, y, en2, T1.sr, p2, fun G2 H2 T2 => ⟨G2, en2, w, en3, T2.sr, p3, fun G3 H3 T3 => ?_⟩⟩⟩
  have T := (T1.trans T2).trans T3
  exact o v d _ _ _ _ G3 H3 Q T3.sr.sub (((r1.step T2).step T3).use T3.sr p4) p5 fun v G' H' N F => k v G' H' (T.trans (N.step T3.sr)) (F.res' T)

/-! ### tests -/
def tB1 (f : Ev) : Tv := fun en => (f en).bind fun x => match x.1 with
  | .bool b => some (b, x.2.2)
  | _ => none
theorem res_bool {G H G1 H1 : Hp} {O O' : Addr → Prop} {v : V} {c b : Bool} (h : Res K O H O' G1 H1 v (.bool c) b) : v = .bl c := by
  cases b with
  | false =>
    have h : Rep K G1 v (.bool c) := h
    cases h
    rfl
  | true =>
    obtain ⟨a, o, rfl, _, _, _, _, q⟩ := h
    cases q
theorem ft_val {f : Ev} (h : PE X e (FE X.K f)) (he : ∀ whole, isTrue e X.env whole = (do let v ← whole; standAt e.pos; holding [v] (truthy v)) := by intro _; rfl) : PT X e (FT X.K (tB1 f)) :=
  pt_imp (pt_val h he) fun σ H Q ⟨G, en, c, en', S, e1, k⟩ => by
    obtain ⟨⟨d, b, en1⟩, p1, e2⟩ := Option.bind_eq_some_iff.mp e1
    cases d <;> first | (cases e2; done) | skip
    rename_i c'
    cases e2
    exact ⟨G, en, _, b, _, S, p1, fun v G' H' T r => ⟨c, res_bool (G := G) (H := H) r, k G' H' T⟩⟩
def tNotF (f : Tv) : Tv := fun en => (f en).map fun x => (!x.1, x.2)
def tAndF (f g : Tv) : Tv := fun en => (f en).bind fun x => if x.1 = true then g x.2 else some (false, x.2)
def tOrF (f g : Tv) : Tv := fun en => (f en).bind fun x => if x.1 = true then some (true, x.2) else g x.2
theorem ft_not {f : Tv} (h : PT X a (FT X.K f)) : PT X (.UnaryOp .Not a pos) (FT X.K (tNotF f)) := pt_imp (pt_not h) fun σ H Q ⟨G, en, c, en', S, e1, k⟩ => by
  obtain ⟨⟨b, en1⟩, p1, e2⟩ := Option.map_eq_some_iff.mp e1
  cases e2
  exact ⟨G, en, b, en1, S, p1, fun G' H' T => k G' H' T⟩
theorem fw_and1 {f : Tv} (h : PT X a (FT X.K f)) : PW X (.BoolOp .And [a] pos) (FT X.K f) := pw_and1 h
theorem fw_or1 {f : Tv} (h : PT X a (FT X.K f)) : PW X (.BoolOp .Or [a] pos) (FT X.K f) := pw_or1 h
theorem fw_and {rest : List Expr} {f g : Tv} (h : PT X a (FT X.K f)) (hb : PW X (.BoolOp .And (b :: rest) pos) (FT X.K g)) : PW X (.BoolOp .And (a :: b :: rest) pos) (FT X.K (tAndF f g)) :=
  pw_imp (pw_and h hb) fun σ H Q ⟨G, en, c, en', S, e1, k⟩ => by
    obtain ⟨⟨c1, en1⟩, p1, e2⟩ := Option.bind_eq_some_iff.mp e1
    refine ⟨G, en, c1, en1, S, p1, fun G1 H1 T => ?_⟩
    cases c1 with
    | true => exact iteT ⟨G1, en1, c, en', T.sr, e2, fun G2 H2 T2 => k G2 H2 (T.trans T2)⟩
    | false =>
      cases e2
      exact iteF (k G1 H1 T)
theorem fw_or {rest : List Expr} {f g : Tv} (h : PT X a (FT X.K f)) (hb : PW X (.BoolOp .Or (b :: rest) pos) (FT X.K g)) : PW X (.BoolOp .Or (a :: b :: rest) pos) (FT X.K (tOrF f g)) :=
  pw_imp (pw_or h hb) fun σ H Q ⟨G, en, c, en', S, e1, k⟩ => by
    obtain ⟨⟨c1, en1⟩, p1, e2⟩ := Option.bind_eq_some_iff.mp e1
    refine ⟨G, en, c1, en1, S, p1, fun G1 H1 T => ?_⟩
    cases c1 with
    | false => exact iteF ⟨G1, en1, c, en', T.sr, e2, fun G2 H2 T2 => k G2 H2 (T.trans T2)⟩
    | true =>
      cases e2
      exact iteT (k G1 H1 T)
/-- and, or, not of bools as values -/
def fAnd (f g : Ev) : Ev := fun en => (f en).bind fun x => match x.1 with
  | .bool b => if b = true then g x.2.2 else some (.bool false, false, x.2.2)
  | _ => none
def fOr (f g : Ev) : Ev := fun en => (f en).bind fun x => match x.1 with
  | .bool b => if b = true then some (.bool true, false, x.2.2) else g x.2.2
  | _ => none
def fNot (f : Ev) : Ev := fun en => (f en).bind fun x => match x.1 with
  | .bool b => some (.bool (!b), false, x.2.2)
  | _ => none
theorem fe_one {op : BoolOp} {f : Ev} (h : PE X a (FE X.K f)) : PE X (.BoolOp op [a] pos) (FE X.K f) := pe_one h
theorem res_trans {G H G1 H1 G2 H2 : Hp} {en en1 en2 : En} {σ : St} {v : V} {d : D} {b : Bool} (T : Step K en en1 σ G H G1 H1) (r : Res K (OwnA en1 σ) H1 (OwnA en2 σ) G2 H2 v d b) : Res K (OwnA en σ) H (OwnA en2 σ) G2 H2 v d b := by
  cases b with
  | false => exact r
  | true =>
    obtain ⟨a, o, e, q1, q2, q3, q4, q5⟩ := r
    refine ⟨a, o, e, ?_, q2, q3, q4, q5⟩
    rcases q1 with q1 | q1
    · exact .inl (T.ext.t a q1)
    · exact .inr (T.own a q1)
theorem fe_and {rest : List Expr} {f g : Ev} (h : PE X a (FE X.K f)) (hb : PE X (.BoolOp .And (b :: rest) pos) (FE X.K g)) : PE X (.BoolOp .And (a :: b :: rest) pos) (FE X.K (fAnd f g)) :=
  pe_imp (pe_and h hb) fun σ H Q ⟨G, en, z, zb, en', S, e1, k⟩ => by
    obtain ⟨⟨d, b1, en1⟩, p1, e2⟩ := Option.bind_eq_some_iff.mp e1
    cases d <;> first | (cases e2; done) | skip
    rename_i c
    refine ⟨G, en, _, b1, en1, S, p1, fun v G1 H1 T r => ⟨c, res_bool (G := G) (H := H) r, ?_⟩⟩
    cases c with
    | true => exact iteT ⟨G1, en1, z, zb, en', T.sr, e2, fun v G2 H2 T2 r2 => k v G2 H2 (T.trans T2) (res_trans T r2)⟩
    | false =>
      cases e2
      exact iteF (k _ G1 H1 T (Rep.bl false))
theorem fe_or {rest : List Expr} {f g : Ev} (h : PE X a (FE X.K f)) (hb : PE X (.BoolOp .Or (b :: rest) pos) (FE X.K g)) : PE X (.BoolOp .Or (a :: b :: rest) pos) (FE X.K (fOr f g)) :=
  pe_imp (pe_or h hb) fun σ H Q ⟨G, en, z, zb, en', S, e1, k⟩ => by
    obtain ⟨⟨d, b1, en1⟩, p1, e2⟩ := Option.bind_eq_some_iff.mp e1
    cases d <;> first | (cases e2; done) | skip
    rename_i c
    refine ⟨G, en, _, b1, en1, S, p1, fun v G1 H1 T r => ⟨c, res_bool (G := G) (H := H) r, ?_⟩⟩
    cases c with
    | false => exact iteF ⟨G1, en1, z, zb, en', T.sr, e2, fun v G2 H2 T2 r2 => k v G2 H2 (T.trans T2) (res_trans T r2)⟩
    | true =>
      cases e2
      exact iteT (k _ G1 H1 T (Rep.bl true))
theorem fe_not {f : Ev} (h : PE X a (FE X.K f)) : PE X (.UnaryOp .Not a pos) (FE X.K (fNot f)) := pe_imp (pe_not h) fun σ H Q ⟨G, en, z, zb, en', S, e1, k⟩ => by
  obtain ⟨⟨d, b1, en1⟩, p1, e2⟩ := Option.bind_eq_some_iff.mp e1
  cases d <;> first | (cases e2; done) | skip
  rename_i c
  cases e2
  exact ⟨G, en, _, b1, _, S, p1, fun v G1 H1 T r => ⟨c, res_bool (G := G) (H := H) r, k _ G1 H1 T (Rep.bl _)⟩⟩
def fIf (c : Tv) (f g : Ev) : Ev := fun en => (c en).bind fun x => if x.1 = true then f x.2 else g x.2
theorem fe_if {c : Expr} {t : Tv} {f g : Ev} (hc : PT X c (FT X.K t)) (ha : PE X a (FE X.K f)) (hb : PE X b (FE X.K g)) : PE X (.IfExp c a b pos) (FE X.K (fIf t f g)) := pe_imp (pe_ifExp hc ha hb) fun σ H Q ⟨G, en, z, zb, en', S, e1, k⟩ => by
  obtain ⟨⟨c1, en1⟩, p1, e2⟩ := Option.bind_eq_some_iff.mp e1
  refine ⟨G, en, c1, en1, S, p1, fun G1 H1 T => ?_⟩
  cases c1 with
  | true => exact iteT ⟨G1, en1, z, zb, en', T.sr, e2, fun v G2 H2 T2 r2 => k v G2 H2 (T.trans T2) (res_trans T r2)⟩
  | false => exact iteF ⟨G1, en1, z, zb, en', T.sr, e2, fun v G2 H2 T2 r2 => k v G2 H2 (T.trans T2) (res_trans T r2)⟩
/-- a < b < c -/
def fChain (p q : Ov) (g g' : D → D → Option (D × Bool)) (w : Ov) : Ev := fun en => (p en).bind fun x => (q x.2).bind fun y => (x.1.late y.2).bind fun d => (y.1.late y.2).bind fun e => (g d e).bind fun z => match z with
  | (.bool c, false) => if c = true then (w y.2).bind fun u => (y.1.late u.2).bind fun e => (u.1.late u.2).bind fun e' => (g' e e').map fun z => (z.1, z.2, u.2) else some (.bool false, false, y.2)
  | _ => none
theorem fe_chain {c : Expr} {op op' : CmpOp} {r r' : R2} {p q w : Ov} {g g' : D → D → Option (D × Bool)} (o : Op2 X.K r g) (o' : Op2 X.K r' g') (ho : OpR X (compareOp op) r) (ho' : OpR X (compareOp op') r') (ha : PE X a (FO X.K p)) (hb : PE X b (FO X.K q)) (hc : PE X c (FO X.K w))
    (hp : PE X (.Compare a [op, op'] [b, c] pos) (tChain r r' (FO X.K p) (FO X.K q) (FO X.K w))) : PE X (.Compare a [op, op'] [b, c] pos) (FE X.K (fChain p q g g' w)) :=
  pe_imp hp fun σ H Q ⟨G, en, z, zb, en', S, e1, k⟩ => by
    obtain ⟨⟨x, en1⟩, p1, e2⟩ := Option.bind_eq_some_iff.mp e1
    obtain ⟨⟨y, en2⟩, p2, e3⟩ := Option.bind_eq_some_iff.mp e2
    obtain ⟨d, p3, e4⟩ := Option.bind_eq_some_iff.mp e3
    obtain ⟨e, p4, e5⟩ := Option.bind_eq_some_iff.mp e4
    obtain ⟨⟨z1, b1⟩, p5, e6⟩ := Option.bind_eq_some_iff.mp e5
    refine ⟨G, en, x, en1, S, p1, fun v G1 H1 T1 r1 => ⟨G1, en1, y, en2, T1.sr, p2, fun u G2 H2 T2 r2 => ?_⟩⟩
    cases b1 with
    | true => cases z1 <;> cases e6
    | false =>
      cases z1 <;> first | (cases e6; done) | skip
      rename_i c1
      have T12 := T1.trans T2
      refine o v u d e _ _ G2 H2 _ T2.sr.sub ((r1.step T2).use T2.sr p3) (r2.use T2.sr p4) p5 fun v3 G3 H3 N F => ?_
      have T3 := N.step T2.sr
      refine ⟨c1, res_bool (G := G) (H := H2) F, ?_⟩
      cases c1 with
      | false =>
        cases e6
        exact iteF (k _ G3 H3 (T12.trans T3) (Rep.bl false))
      | true =>
        obtain ⟨⟨u1, en4⟩, q1, f2⟩ := Option.bind_eq_some_iff.mp (show ((w en2).bind fun u => (y.late u.2).bind fun e => (u.1.late u.2).bind fun e' => (g' e e').map fun z => (z.1, z.2, u.2)) = some (z, zb, en') from e6)
        obtain ⟨e8, q2, f3⟩ := Option.bind_eq_some_iff.mp f2
        obtain ⟨e9, q3, f4⟩ := Option.bind_eq_some_iff.mp f3
        obtain ⟨⟨z', b'⟩, p7, e10⟩ := Option.map_eq_some_iff.mp f4
        cases e10
        refine iteT ⟨G3, en2, u1, en4, T3.sr, q1, fun v4 G4 H4 T4 r4 => ?_⟩
        have T := (T12.trans T3).trans T4
        exact o' u v4 e8 e9 _ _ G4 H4 Q T4.sr.sub (((r2.step T3).step T4).use T4.sr q2) (r4.use T4.sr q3) p7 fun v G' H' N F => k v G' H' (T.trans (N.step T4.sr)) (F.res' T)
end
end Fx
/-! Fx3: stores, calls of own defs, statements. -/
namespace Fx
open PySem PySem.Spec L2
section
variable {K : PySem.W.Frag} {G H G1 H1 G2 H2 : Hp} {en en1 en2 : En} {σ σ1 : St}
theorem set_at {j : Nat} {x : Option (D × Fl)} {i : Nat} {y : Option (D × Fl)} (h : (en.set j x)[i]? = some y) : (i = j ∧ x = y ∧ j < en.length) ∨ (i ≠ j ∧ en[i]? = some y) := by
  by_cases hi : i = j
  · subst hi
    by_cases hl : i < en.length
    · rw [List.getElem?_set_self hl] at h
      exact .inl ⟨rfl, Option.some.inj h, hl⟩
    · rw [List.getElem?_eq_none (by simpa using hl)] at h
      cases h
  · rw [List.getElem?_set_ne (Ne.symm hi)] at h
    exact .inr ⟨hi, h⟩
/-- the object of slot j is written -/
theorem SR.write {j : Nat} {dw dw' : D} {f : Fl} {a : Addr} {o' : HO} (S : SR K G H en σ) (e : en[j]? = some (some (dw, f))) (hf : f ≠ .sh) (s : σ[j]? = some (some (.ref a))) (E : Ext (fun b => b = a) G H G1 H1) (sub : Same G1 H1) (g : G1 a = none) (h : H1 a = some o') (r : RepO K G1 o' dw') :
    Step K en (en.set j (some (dw', f))) σ G H G1 H1 := by
  have me : OwnA en σ a := ⟨j, dw, f, e, hf, s⟩
  have hj : j < en.length := (List.getElem?_eq_some_iff.mp e).1
  have back : ∀ (i : Nat) (d : D) (g : Fl), (en.set j (some (dw', f)))[i]? = some (some (d, g)) → ∃ d0, en[i]? = some (some (d0, g)) := fun i d g q => by
    rcases set_at q with ⟨rfl, q1, _⟩ | ⟨_, q1⟩
    · cases q1
      exact ⟨dw, e⟩
    · exact ⟨d, q1⟩
  refine ⟨E.weak fun b u z _ => by rw [z]; exact me, ⟨sub, by simpa using S.len, fun i d q => ?_, fun i d f' q n => ?_, fun i k d d2 f1 f2 b q1 n1 q2 n2 => ?_⟩, fun b q => ?_, fun i d q => ?_⟩
  · rcases set_at q with ⟨rfl, q1, _⟩ | ⟨_, q1⟩
    · cases q1
      exact absurd rfl hf
    · obtain ⟨v, e1, e2⟩ := S.shd i d q1
      exact ⟨v, e1, e2.mono E.g⟩
  · rcases set_at q with ⟨rfl, q1, _⟩ | ⟨hi, q1⟩
    · cases q1
      exact ⟨a, o', s, g, h, r⟩
    · obtain ⟨b, u, e1, e2, e3, e4⟩ := S.own i d f' q1 n
      have hb : b ≠ a := fun z => by
        subst z
        exact hi (S.sep i j d dw f' f b q1 n e hf e1 s)
      exact ⟨b, u, e1, E.n b u e3 hb e2, E.h b u e3 hb, e4.mono E.g⟩
  · obtain ⟨e1, q1⟩ := back i d f1 q1
    obtain ⟨e2, q2⟩ := back k d2 f2 q2
    exact S.sep i k _ _ f1 f2 b q1 n1 q2 n2
  · obtain ⟨i, d, g', q1, n, q2⟩ := q
    obtain ⟨d0, q1⟩ := back i d g' q1
    exact ⟨i, d0, g', q1, n, q2⟩
  · by_cases hi : i = j
    · subst hi
      rw [e] at q
      cases q
      exact ⟨dw', by rw [List.getElem?_set_self hj]⟩
    · exact ⟨d, by rw [List.getElem?_set_ne (Ne.symm hi)]; exact q⟩
/-- may slot i be stored into -/
def free1 (en : En) (i : Nat) : Bool := match en[i]? with
  | some (some (_, .lent)) => false
  | _ => true
def flag (b : Bool) : Fl := if b then .own else .sh
/-- a value is stored into slot i -/
theorem StepS.store {en0 : En} {σ0 : St} {G0 H0 : Hp} {i : Nat} {v : V} {d : D} {b : Bool} (T : StepS K en0 σ0 G0 H0 en σ G H) (hl : free1 en i = true) (r : Res K (OwnA en0 σ0) H0 (OwnA en σ) G H v d b) :
    StepS K en0 σ0 G0 H0 (en.set i (some (d, flag b))) (σ.set i (some v)) G H := by
  have S := T.sr
  have sσ : ∀ {k : Nat} {w : Option V}, k ≠ i → (σ.set i (some v))[k]? = some w → σ[k]? = some w := fun {k w} hk q => by rw [List.getElem?_set_ne (Ne.symm hk)] at q; exact q
  have sv : ∀ {k : Nat}, k = i → i < en.length → (σ.set i (some v))[k]? = some (some v) := fun {k} hk q => by rw [hk, List.getElem?_set_self (by rw [← S.len]; exact q)]
  have keep : ∀ {k : Nat} {w : Option V}, k ≠ i → σ[k]? = some w → (σ.set i (some v))[k]? = some w := fun {k w} hk q => by rw [List.getElem?_set_ne (Ne.symm hk)]; exact q
  have old : ∀ (k : Nat) (d2 : D) (f : Fl) (x : Addr), k ≠ i → en[k]? = some (some (d2, f)) → f ≠ .sh → (σ.set i (some v))[k]? = some (some (.ref x)) → OwnA en σ x := fun k d2 f x hk q n q2 => ⟨k, d2, f, q, n, sσ hk q2⟩
  have neu : ∀ (k : Nat) (d2 : D) (f : Fl) (x : Addr), k = i → (some (d, flag b) : Option (D × Fl)) = some (d2, f) → i < en.length → f ≠ .sh → (σ.set i (some v))[k]? = some (some (.ref x)) → (H0 x = none ∨ OwnA en0 σ0 x) ∧ ¬ OwnA en σ x ∧ ∃ o, H x = some o ∧ G x = none ∧ RepO K G o d2 := by
    intro k d2 f x hk q3 hL n q2
    rw [sv hk hL] at q2
    cases b with
    | false =>
      cases q3
      exact absurd rfl n
    | true =>
      obtain ⟨a, o, e, h1, h2, h3, h4, h5⟩ := r
      cases q3
      rw [e] at q2
      cases q2
      exact ⟨h1, h2, o, h3, h4, h5⟩
  refine ⟨T.ext, ⟨S.sub, by simpa using S.len, fun k d2 q => ?_, fun k d2 f q n => ?_, fun k l d2 d3 f g x q1 n1 q2 n2 s1 s2 => ?_⟩, fun x q => ?_, fun k d2 q => ?_⟩
  · rcases set_at q with ⟨hk, q1, hL⟩ | ⟨hk, q1⟩
    · cases b with
      | true => cases q1
      | false =>
        cases q1
        exact ⟨v, sv hk hL, r⟩
    · obtain ⟨w, e1, e2⟩ := S.shd k d2 q1
      exact ⟨w, keep hk e1, e2⟩
  · rcases set_at q with ⟨hk, q1, hL⟩ | ⟨hk, q1⟩
    · cases b with
      | false =>
        cases q1
        exact absurd rfl n
      | true =>
        obtain ⟨a, o, e, _, _, h3, h4, h5⟩ := r
        cases q1
        exact ⟨a, o, by rw [sv hk hL, e], h4, h3, h5⟩
    · obtain ⟨a, o, e1, e2, e3, e4⟩ := S.own k d2 f q1 n
      exact ⟨a, o, keep hk e1, e2, e3, e4⟩
  · rcases set_at q1 with ⟨hk, q3, hL⟩ | ⟨hk, q3⟩
    · rcases set_at q2 with ⟨hl2, _, _⟩ | ⟨hl2, q4⟩
      · rw [hk, hl2]
      · exact ((neu k d2 f x hk q3 hL n1 s1).2.1 (old l d3 g x hl2 q4 n2 s2)).elim
    · rcases set_at q2 with ⟨hl2, q4, hL⟩ | ⟨hl2, q4⟩
      · exact ((neu l d3 g x hl2 q4 hL n2 s2).2.1 (old k d2 f x hk q3 n1 s1)).elim
      · exact S.sep k l d2 d3 f g x q3 n1 q4 n2 (sσ hk s1) (sσ hl2 s2)
  · obtain ⟨k, d2, f, q1, n, q2⟩ := q
    rcases set_at q1 with ⟨hk, q3, hL⟩ | ⟨hk, q3⟩
    · exact (neu k d2 f x hk q3 hL n q2).1.symm
    · exact T.own x (old k d2 f x hk q3 n q2)
  · obtain ⟨⟨d', e1⟩, e2⟩ := T.lent k d2 q
    have hk : k ≠ i := fun z => by
      subst z
      unfold free1 at hl
      rw [e1] at hl
      cases hl
    exact ⟨⟨d', by rw [List.getElem?_set_ne (Ne.symm hk)]; exact e1⟩, by rw [List.getElem?_set_ne (Ne.symm hk)]; exact e2⟩
/-- who is another one stays nobody's -/
theorem own_store {i : Nat} {v : V} {d : D} {f : Fl} {x : Addr} (S : SR K G H en σ) (h : OwnA (en.set i (some (d, f))) (σ.set i (some v)) x) : v = .ref x ∨ OwnA en σ x := by
  obtain ⟨k, d2, g, q1, n, q2⟩ := h
  rcases set_at q1 with ⟨hk, _, hL⟩ | ⟨hk, q3⟩
  · rw [hk, List.getElem?_set_self (by rw [← S.len]; exact hL)] at q2
    cases q2
    exact .inl rfl
  · rw [List.getElem?_set_ne (Ne.symm hk)] at q2
    exact .inr ⟨k, d2, g, q3, n, q2⟩
theorem resS {G3 H3 : Hp} {en2 : En} {σ2 : St} {v : V} {d : D} {b : Bool} (T : StepS K en σ G H en1 σ1 G1 H1) (r : Res K (OwnA en1 σ1) H1 (OwnA en2 σ2) G3 H3 v d b) : Res K (OwnA en σ) H (OwnA en2 σ2) G3 H3 v d b := by
  cases b with
  | false => exact r
  | true =>
    obtain ⟨a, o, e, q1, q2, q3, q4, q5⟩ := r
    refine ⟨a, o, e, ?_, q2, q3, q4, q5⟩
    rcases q1 with q1 | q1
    · exact .inl (T.ext.t a q1)
    · exact (T.own a q1).symm
end

/-! ### own defs -/
/-- a def that writes none of its arguments -/
def sp0 (K : PySem.W.Frag) (np : Nat) (F : List D → Option (D × Bool)) : Sp := fun vs H Q _ => ∃ G ds d b, Same G H ∧ Reps K G vs ds ∧ ds.length = np ∧ F ds = some (d, b) ∧ ∀ v G' H', New G H G' H' → Fresh K H G' H' v d b → Q v H'
/-- a def that writes its first argument -/
def spW (K : PySem.W.Frag) (np : Nat) (F : D → List D → Option (D × Bool × D)) : Sp := fun vs H Q _ => ∃ G a o dw ws ds d b dw', vs = .ref a :: ws ∧ Same G H ∧ G a = none ∧ H a = some o ∧ RepO K G o dw ∧ Reps K G ws ds ∧ ds.length = np ∧ F dw ds = some (d, b, dw') ∧
  ∀ v G' H' o', Ext (fun x => x = a) G H G' H' → Same G' H' → G' a = none → H' a = some o' → RepO K G' o' dw' → Res K (fun x => x = a) H (fun x => x = a) G' H' v d b → Q v H'
def ini (n : Nat) (ds : List D) : En := ds.map (fun d => some (d, Fl.sh)) ++ List.replicate (n - ds.length) none
def mk0 (n : Nat) (g : Sv) (ds : List D) : Option (D × Bool) := (g (ini n ds)).bind fun x => match x.1 with
  | .rt d b => some (d, b)
  | .nx => some (.none, false)
  | _ => none
def lentAt (en : En) (i : Nat) : Option D := match en[i]? with
  | some (some (d, .lent)) => some d
  | _ => none
theorem lentAt_of {en : En} {i : Nat} {d : D} (h : lentAt en i = some d) : en[i]? = some (some (d, .lent)) := by
  unfold lentAt at h
  split at h
  · rename_i d' q
    cases h
    exact q
  · cases h
def mkW (n : Nat) (g : Sv) (dw : D) (ds : List D) : Option (D × Bool × D) := (g (some (dw, Fl.lent) :: ini (n - 1) ds)).bind fun x => (lentAt x.2 0).bind fun dw' => match x.1 with
  | .rt d b => some (d, b, dw')
  | .nx => some (.none, false, dw')
  | _ => none
def fCall (np : Nat) (l : Lv) (F : List D → Option (D × Bool)) : Ev := fun en => (l en).bind fun x => if x.1.length = np then (F x.1).map fun z => (z.1, z.2, x.2) else none
def isOwn (en : En) (j : Nat) : Bool := match en[j]? with
  | some (some (_, .own)) => true
  | some (some (_, .lent)) => true
  | _ => false
theorem isOwn_of {en : En} {j : Nat} (h : isOwn en j = true) : ∃ d f, en[j]? = some (some (d, f)) ∧ f ≠ .sh := by
  unfold isOwn at h
  split at h
  · rename_i d q
    exact ⟨d, _, q, by decide⟩
  · rename_i d q
    exact ⟨d, _, q, by decide⟩
  · cases h
def fCallW (np j : Nat) (l : Lv) (F : D → List D → Option (D × Bool × D)) : Ev := fun en => if isOwn en j = true then (l en).bind fun x => match x.2[j]? with
  | some (some (dw, f)) => if f = .sh then none else if x.1.length = np then (F dw x.1).map fun z => (z.1, z.2.1, x.2.set j (some (z.2.2, f))) else none
  | _ => none
  else none
theorem getSlot {en : En} {j : Nat} {α : Type} {k : D → Fl → Option α} {z : α} (h : (match en[j]? with
  | some (some (dw, f)) => k dw f
  | _ => none) = some z) : ∃ dw f, en[j]? = some (some (dw, f)) ∧ k dw f = some z := by
  split at h
  · rename_i dw f q
    exact ⟨dw, f, q, h⟩
  · cases h
theorem ite_some {α : Type} {c : Prop} [Decidable c] {a : Option α} {z : α} (h : (if c then a else none) = some z) : c ∧ a = some z := by
  by_cases hc : c
  · rw [if_pos hc] at h
    exact ⟨hc, h⟩
  · rw [if_neg hc] at h
    cases h
theorem ite_none {α : Type} {c : Prop} [Decidable c] {a : Option α} {z : α} (h : (if c then none else a) = some z) : ¬ c ∧ a = some z := by
  by_cases hc : c
  · rw [if_pos hc] at h
    cases h
  · rw [if_neg hc] at h
    exact ⟨hc, h⟩
section
variable {X : Cx} {k : Nat} {f : Addr} {fd : FuncData} {ps : List Str} {np : Nat} {x : Str} {p pos : Pos} {e : Expr} {es : List Expr}
theorem fe_call {l : Lv} {F0 : List D → Option (D × Bool)} (F : FnOk X.prog X.w X.K X.mg X.base CX0 k f fd ps (sp0 X.K np F0)) (hr : Room k X.A) (hm : X.mg x = some (.ref f)) (hk : PySem.W.keepIn X.K (.ref f) = true) (hb : Binds X.K fd ps []) (ha : PA X (e :: es) (FL X.K l))
    (hg : Gl X x := by rfl) (hdb : (x == ("__debug__" : Str)) = false := by decide) (he : starEach (e :: es) X.env = (false, eval e X.env) :: starEach es X.env := by rfl) (hpl : (backTo pos (starEach es X.env)).any (·.1) = false := by rfl) : PE X (.Call (.Name x p) (e :: es) [] pos) (FE X.K (fCall np l F0)) :=
  pe_imp (pe_call F hr hg hm hk hb .nil (E := fun _ _ _ => False) (fun _ _ _ _ _ _ _ z => z.elim) ha hdb he hpl) fun σ H Q ⟨G, en, d, b, en', S, e1, k⟩ => by
    obtain ⟨⟨ds, en1⟩, p1, e2⟩ := Option.bind_eq_some_iff.mp e1
    obtain ⟨hl, e3⟩ := ite_some e2
    obtain ⟨⟨z, b'⟩, p5, e6⟩ := Option.map_eq_some_iff.mp e3
    cases e6
    refine ⟨G, en, ds, en1, S, p1, fun vs G1 H1 T r => ?_⟩
    exact ⟨G1, ds, _, _, T.sr.sub, by rw [List.append_nil]; exact r, hl, p5, fun v G' H' N F => k v G' H' (T.trans (N.step T.sr)) (F.res' T)⟩
/-- f(): no argument -/
theorem fe_call0 {F0 : List D → Option (D × Bool)} (F : FnOk X.prog X.w X.K X.mg X.base CX0 k f fd ps (sp0 X.K np F0)) (hr : Room k X.A) (hm : X.mg x = some (.ref f)) (hk : PySem.W.keepIn X.K (.ref f) = true) (hb : Binds X.K fd ps [])
    (hg : Gl X x := by rfl) (hdb : (x == ("__debug__" : Str)) = false := by decide) : PE X (.Call (.Name x p) [] [] pos) (FE X.K (fCall np lNil F0)) :=
  pe_imp (pe_call0 F hr hg hm hk hb .nil (E := fun _ _ _ => False) (fun _ _ _ _ _ _ _ z => z.elim) hdb) fun σ H Q ⟨G, en, d, b, en', S, e1, k⟩ => by
    obtain ⟨⟨ds, en1⟩, p1, e2⟩ := Option.bind_eq_some_iff.mp e1
    obtain ⟨hl, e3⟩ := ite_some e2
    obtain ⟨⟨z, b'⟩, p5, e6⟩ := Option.map_eq_some_iff.mp e3
    cases e6
    cases p1
    exact ⟨G, [], _, _, S.sub, .nil, hl, p5, fun v G' H' N F => k v G' H' (N.step S) (F.res S)⟩
theorem fe_callW {l : Lv} {j : Nat} {F0 : D → List D → Option (D × Bool × D)} (F : FnOk X.prog X.w X.K X.mg X.base CX0 k f fd ps (spW X.K np F0)) (hr : Room k X.A) (hm : X.mg x = some (.ref f)) (hk : PySem.W.keepIn X.K (.ref f) = true) (hb : Binds X.K fd ps []) (hw : PE X e (tVar j)) (ha : PA X es (FL X.K l))
    (hg : Gl X x := by rfl) (hdb : (x == ("__debug__" : Str)) = false := by decide) (he : starEach (e :: es) X.env = (false, eval e X.env) :: starEach es X.env := by rfl) (hpl : (backTo pos (starEach es X.env)).any (·.1) = false := by rfl) : PE X (.Call (.Name x p) (e :: es) [] pos) (FE X.K (fCallW np j l F0)) :=
  pe_imp (pe_call F hr hg hm hk hb .nil (E := fun _ _ _ => False) (fun _ _ _ _ _ _ _ z => z.elim) (pa_cons hw ha he) hdb he hpl) fun σ H Q ⟨G, en, d, b, en', S, e1, k⟩ => by
    obtain ⟨h0, e1⟩ := ite_some e1
    obtain ⟨⟨ds, en1⟩, p1, e2⟩ := Option.bind_eq_some_iff.mp e1
    obtain ⟨dw, fl, q1, e3⟩ := getSlot e2
    obtain ⟨hf, e4⟩ := ite_none e3
    obtain ⟨hl, e5⟩ := ite_some e4
    obtain ⟨⟨z, b', dw'⟩, p5, e6⟩ := Option.map_eq_some_iff.mp e5
    cases e6
    obtain ⟨d0, f0, h1, h2⟩ := isOwn_of h0
    obtain ⟨a, o0, q2, _⟩ := S.own j d0 f0 h1 h2
    refine ⟨_, q2, G, en, ds, en1, S, p1, fun vs G1 H1 T r => ?_⟩
    obtain ⟨a', o, s1, s2, s3, s4⟩ := T.sr.own j dw fl q1 hf
    rw [q2] at s1
    cases s1
    refine ⟨G1, a, o, dw, vs, ds, z, b', dw', (List.append_nil _).trans rfl, T.sr.sub, s2, s3, s4, r, hl, p5, fun v G' H' o' E sub g h ro R => ?_⟩
    have W := SR.write T.sr q1 hf q2 E sub g h ro
    refine k v G' H' (T.trans W) ?_
    cases b' with
    | false => exact R
    | true =>
      obtain ⟨c, u, e, w1, w2, w3, w4, w5⟩ := R
      have hn : H1 c = none := w1.resolve_right w2
      refine ⟨c, u, e, .inl (T.ext.t c hn), fun q => ?_, w3, w4, w5⟩
      obtain ⟨y, e7, _⟩ := T.sr.there (W.own c q)
      rw [hn] at e7
      cases e7
end
end Fx
/-! Fx4: statements, loops, bodies of defs. -/
namespace Fx
open PySem PySem.Spec L2
/-! ### blocks -/
def sNx : Sv := fun en => some (.nx, en)
def sSeq (a b : Sv) : Sv := fun en => (a en).bind fun x => match x.1 with
  | .nx => b x.2
  | o => some (o, x.2)
section
variable {X : Cx} {st : Stmt} {rest : List Stmt} {pos : Pos} {e : Expr} {K : PySem.W.Frag}
theorem outR {D : Ends} {G H G1 H1 : Hp} {en en1 en2 : En} {σ σ1 : St} {o : Out} (T : StepS K en σ G H en1 σ1 G1 H1) (h : OutR K D en σ G H en2 o) : OutR K D en1 σ1 G1 H1 en2 o := by
  cases o with
  | nx => exact fun G' H' σ' T' => h G' H' σ' (T.trans T')
  | bk => exact fun G' H' σ' T' => h G' H' σ' (T.trans T')
  | ct => exact fun G' H' σ' T' => h G' H' σ' (T.trans T')
  | rt d b => exact fun v G' H' σ' T' r => h v G' H' σ' (T.trans T') (resS T r)
theorem fs_nil : PSs X [] (FS X.K sNx) := pss_imp pss_nil fun D σ H ⟨G, en, o, en', S, e1, k⟩ => by
  cases e1
  exact k G H σ (StepS.refl S)
theorem fs_cons {a b : Sv} (h1 : PS X st (FS X.K a)) (h2 : PSs X rest (FS X.K b)) : PSs X (st :: rest) (FS X.K (sSeq a b)) := pss_imp (pss_cons h1 h2) fun D σ H ⟨G, en, o, en', S, e1, k⟩ => by
  obtain ⟨⟨o1, en1⟩, p1, e2⟩ := Option.bind_eq_some_iff.mp e1
  cases o1 with
  | nx => exact ⟨G, en, .nx, en1, S, p1, fun G1 H1 σ1 T => ⟨G1, en1, o, en', T.sr, e2, outR T k⟩⟩
  | bk => cases e2; exact ⟨G, en, .bk, _, S, p1, k⟩
  | ct => cases e2; exact ⟨G, en, .ct, _, S, p1, k⟩
  | rt d b => cases e2; exact ⟨G, en, .rt d b, _, S, p1, k⟩
theorem fs_one {a : Sv} (h : PS X st (FS X.K a)) : PSs X [st] (FS X.K a) := pss_one h
def sBreak : Sv := fun en => some (.bk, en)
def sCont : Sv := fun en => some (.ct, en)
theorem fs_pass : PS X (.Pass pos) (FS X.K sNx) := ps_imp ps_pass fun D σ H ⟨G, en, o, en', S, e1, k⟩ => by
  cases e1
  exact k G H σ (StepS.refl S)
theorem fs_break : PS X (.Break pos) (FS X.K sBreak) := ps_imp ps_break fun D σ H ⟨G, en, o, en', S, e1, k⟩ => by
  cases e1
  exact k G H σ (StepS.refl S)
theorem fs_continue : PS X (.Continue pos) (FS X.K sCont) := ps_imp ps_continue fun D σ H ⟨G, en, o, en', S, e1, k⟩ => by
  cases e1
  exact k G H σ (StepS.refl S)
def sExpr (f : Ev) : Sv := fun en => (f en).map fun x => (.nx, x.2.2)
theorem fs_expr {f : Ev} (h : PE X e (FE X.K f)) (hs : swapsWith e none pos.line X.env = pure false := by rfl) : PS X (.Expr e pos) (FS X.K (sExpr f)) := ps_imp (ps_expr h hs) fun D σ H ⟨G, en, o, en', S, e1, k⟩ => by
  obtain ⟨⟨d, b, en1⟩, p1, e2⟩ := Option.map_eq_some_iff.mp e1
  cases e2
  exact ⟨G, en, d, b, en1, S, p1, fun v G1 H1 T _ => k G1 H1 σ T.s⟩
def sRet (f : Ev) : Sv := fun en => (f en).map fun x => (.rt x.1 x.2.1, x.2.2)
theorem fs_ret {f : Ev} (h : PE X e (FE X.K f)) : PS X (.Return (some e) pos) (FS X.K (sRet f)) := ps_imp (ps_ret h) fun D σ H ⟨G, en, o, en', S, e1, k⟩ => by
  obtain ⟨⟨d, b, en1⟩, p1, e2⟩ := Option.map_eq_some_iff.mp e1
  cases e2
  exact ⟨G, en, d, b, en1, S, p1, fun v G1 H1 T r => k v G1 H1 σ T.s r⟩
def sRetN : Sv := fun en => some (.rt .none false, en)
theorem fs_retN : PS X (.Return none pos) (FS X.K sRetN) := ps_imp ps_retN fun D σ H ⟨G, en, o, en', S, e1, k⟩ => by
  cases e1
  exact k _ G H σ (StepS.refl S) Rep.non
/-- return x: what x owns is handed on -/
def sRetX (i : Nat) : Sv := fun en => match en[i]? with
  | some (some (d, .sh)) => some (.rt d false, en)
  | some (some (d, .own)) => some (.rt d true, en.set i none)
  | _ => none
theorem fs_retX {i : Nat} (h : PE X e (tVar i)) : PS X (.Return (some e) pos) (FS X.K (sRetX i)) := ps_imp (ps_ret h) fun D σ H ⟨G, en, o, en', S, e1, k⟩ => by
  unfold sRetX at e1
  split at e1
  · rename_i d q
    cases e1
    obtain ⟨v, s1, s2⟩ := S.shd i d q
    exact ⟨v, s1, k v G H σ (StepS.refl S) s2⟩
  · rename_i d q
    cases e1
    obtain ⟨a, u, s1, s2, s3, s4⟩ := S.own i d .own q (by decide)
    have hi : i < en.length := (List.getElem?_eq_some_iff.mp q).1
    have back : ∀ (j : Nat) (d2 : Fx.D) (f : Fl), (en.set i none)[j]? = some (some (d2, f)) → j ≠ i ∧ en[j]? = some (some (d2, f)) := fun j d2 f w => by
      rcases set_at w with ⟨_, w1, _⟩ | ⟨w1, w2⟩
      · cases w1
      · exact ⟨w1, w2⟩
    refine ⟨_, s1, k _ G H σ ⟨Ext.refl, ⟨S.sub, by simpa using S.len, fun j d2 w => S.shd j d2 (back j d2 _ w).2, fun j d2 f w n => S.own j d2 f (back j d2 f w).2 n, fun j l d2 d3 f g x w1 n1 w2 n2 => S.sep j l d2 d3 f g x (back j d2 f w1).2 n1 (back l d3 g w2).2 n2⟩,
      fun b ⟨j, d2, f, w, n, z⟩ => .inl ⟨j, d2, f, (back j d2 f w).2, n, z⟩, fun j d2 w => ⟨⟨d2, ?_⟩, rfl⟩⟩ ⟨a, u, rfl, .inr ⟨i, d, .own, q, by decide, s1⟩, ?_, s3, s2, s4⟩⟩
    · have hj : j ≠ i := fun z => by
        rw [z, q] at w
        cases w
      rw [List.getElem?_set_ne (Ne.symm hj)]
      exact w
    · rintro ⟨j, d2, f, w, n, z⟩
      obtain ⟨w1, w2⟩ := back j d2 f w
      exact w1 (S.sep j i d2 d f .own a w2 n q (by decide) z s1)
  · cases e1
def sIf (t : Tv) (a b : Sv) : Sv := fun en => (t en).bind fun x => if x.1 = true then a x.2 else b x.2
theorem fs_if {c : Expr} {p q : List Stmt} {t : Tv} {a b : Sv} (hc : PT X c (FT X.K t)) (ha : PSs X p (FS X.K a)) (hb : PSs X q (FS X.K b)) : PS X (.If c p q pos) (FS X.K (sIf t a b)) := ps_imp (ps_if hc ha hb) fun D σ H ⟨G, en, o, en', S, e1, k⟩ => by
  obtain ⟨⟨c1, en1⟩, p1, e2⟩ := Option.bind_eq_some_iff.mp e1
  refine ⟨G, en, c1, en1, S, p1, fun G1 H1 T => ?_⟩
  cases c1 with
  | true => exact iteT ⟨G1, en1, o, en', T.sr, e2, outR T.s k⟩
  | false => exact iteF ⟨G1, en1, o, en', T.sr, e2, outR T.s k⟩
/-! ### stores -/
def sSet (i : Nat) (f : Ev) : Sv := fun en => (f en).bind fun x => if free1 x.2.2 i = true then some (.nx, x.2.2.set i (some (x.1, flag x.2.1))) else none
theorem asg_name {i : Nat} {f : Ev} {D : Ends} {σ : St} {H : Hp} (h : FS K (sSet i f) D σ H) : tAsg (FE K f) (gName i) D σ H := by
  obtain ⟨G, en, o, en', S, e1, k⟩ := h
  obtain ⟨⟨d, b, en1⟩, p1, e2⟩ := Option.bind_eq_some_iff.mp e1
  obtain ⟨hl, e3⟩ := ite_some e2
  cases e3
  exact ⟨G, en, d, b, en1, S, p1, fun v G1 H1 T r => k G1 H1 _ (T.s.store hl r)⟩
theorem fs_set {i : Nat} {x : Str} {f : Ev} {pos' : Pos} (hN : X.N.Nodup) (he : PE X e (FE X.K f)) (hi : X.N[i]? = some x := by rfl) (hx : Loc X.env.scope x := by first | exact .inl rfl | exact .inr rfl) (hs : swapsWith e (some (.Name x pos')) pos.line X.env = pure false := by rfl) (hf : X.fn x = true ∨ X.env.scope.names.lookup x = some .local := by first | exact .inl rfl | exact .inr rfl | assumption) :
    PS X (.Assign [.Name x pos'] e pos) (FS X.K (sSet i f)) := ps_imp (ps_set hN hi hx he hs hf) fun D σ H h => asg_name h
/-- x += e of ints -/
def sAug (i : Nat) (f : Ev) (g : D → D → Option D) : Sv := fun en => (peek en i).bind fun d0 => (f en).bind fun x => if free1 x.2.2 i = true then (g d0 x.1).map fun z => (.nx, x.2.2.set i (some (z, .sh))) else none
/-! ### targets -/
abbrev Gv := D → En → Option En
/-- a step that stores shared values alone -/
structure StepG (K : PySem.W.Frag) (en : En) (σ : St) (G H : Hp) (en' : En) (σ' : St) (G' H' : Hp) : Prop where
  ext : Ext (OwnA en σ) G H G' H'
  sr : SR K G' H' en' σ'
  own : ∀ b, OwnA en' σ' b → OwnA en σ b
  lent : ∀ (i : Nat) (d : D), en[i]? = some (some (d, .lent)) → (∃ d', en'[i]? = some (some (d', .lent))) ∧ σ'[i]? = σ[i]?
theorem StepG.refl {G H : Hp} {en : En} {σ : St} (S : SR K G H en σ) : StepG K en σ G H en σ G H := ⟨Ext.refl, S, fun _ h => h, fun _ d e => ⟨⟨d, e⟩, rfl⟩⟩
theorem StepG.trans {G H G1 H1 G2 H2 : Hp} {en en1 en2 : En} {σ σ1 σ2 : St} (a : StepG K en σ G H en1 σ1 G1 H1) (b : StepG K en1 σ1 G1 H1 en2 σ2 G2 H2) : StepG K en σ G H en2 σ2 G2 H2 :=
  ⟨a.ext.trans b.ext fun x h => .inl (a.own x h), b.sr, fun x h => a.own x (b.own x h), fun i d e => by
    obtain ⟨⟨d', e'⟩, s⟩ := a.lent i d e
    obtain ⟨l, s'⟩ := b.lent i d' e'
    exact ⟨l, s'.trans s⟩⟩
theorem StepG.s {G H G1 H1 : Hp} {en en1 : En} {σ σ1 : St} (a : StepG K en σ G H en1 σ1 G1 H1) : StepS K en σ G H en1 σ1 G1 H1 := ⟨a.ext, a.sr, fun b h => .inl (a.own b h), a.lent⟩
theorem step_g {G H G1 H1 : Hp} {en en1 : En} {σ : St} (a : Step K en en1 σ G H G1 H1) : StepG K en σ G H en1 σ G1 H1 := ⟨a.ext, a.sr, a.own, fun i d e => ⟨a.lent i d e, rfl⟩⟩
theorem StepG.put {G H : Hp} {en : En} {σ : St} {i : Nat} {v : V} {d : D} (S : SR K G H en σ) (hl : free1 en i = true) (r : Rep K G v d) : StepG K en σ G H (en.set i (some (d, .sh))) (σ.set i (some v)) G H := by
  have T := StepS.store (b := false) (StepS.refl S) hl r
  refine ⟨T.ext, T.sr, fun b h => ?_, T.lent⟩
  obtain ⟨j, d2, f, q, n, z⟩ := h
  rcases set_at q with ⟨_, w, _⟩ | ⟨hj, w⟩
  · cases w
    exact absurd rfl n
  · rw [List.getElem?_set_ne (Ne.symm hj)] at z
    exact ⟨j, d2, f, w, n, z⟩
/-- all slots but ts stand -/
def Off (ts : List Nat) (σ σ' : St) : Prop := σ'.length = σ.length ∧ ∀ i, i ∉ ts → σ'[i]? = σ[i]?
/-- what a target is given: any shared value; or a tuple of such, its standing of no matter (a pair that an iterator made) -/
abbrev Given := PySem.W.Frag → Hp → V → D → Prop
def RepP : Given := fun K G v d => ∃ a xs ds, v = .ref a ∧ d = .tuple ds ∧ SqT K G a xs ∧ Reps K G xs ds
def FG (R : Given) (K : PySem.W.Frag) (ts : List Nat) (s : Gv) : TG := fun v σ H Q => ∃ G en d en', SR K G H en σ ∧ R K G v d ∧ s d en = some en' ∧ ∀ σ' G' H', StepG K en σ G H en' σ' G' H' → Off ts σ σ' → Q σ' H'
def FGs (K : PySem.W.Frag) (ts : List Nat) (s : List D → En → Option En) : TGs := fun vs σ H Q => ∃ G en ds en', SR K G H en σ ∧ Reps K G vs ds ∧ s ds en = some en' ∧ ∀ σ' G' H', StepG K en σ G H en' σ' G' H' → Off ts σ σ' → Q σ' H'
theorem pg_imp {t t' : TG} (h : PG X e t) (k : ∀ v σ H Q, t' v σ H Q → t v σ H Q) : PG X e t' := ⟨fun pins s σ H v u Q I r q => h.run pins s σ H v u Q I r (k _ _ _ _ q)⟩
theorem pgs_imp {es : List Expr} {t t' : TGs} (h : PGs X es t) (k : ∀ v σ H Q, t' v σ H Q → t v σ H Q) : PGs X es t' := ⟨fun pins s σ H v u Q I r q => h.run pins s σ H v u Q I r (k _ _ _ _ q)⟩
def gN (i : Nat) : Gv := fun d en => if free1 en i = true then some (en.set i (some (d, .sh))) else none
def gsNil : List D → En → Option En := fun ds en => match ds with
  | [] => some en
  | _ => none
def gsCons (s : Gv) (r : List D → En → Option En) : List D → En → Option En := fun ds en => match ds with
  | d :: ds => (s d en).bind (r ds)
  | _ => none
def gT (n : Nat) (r : List D → En → Option En) : Gv := fun d en => match d with
  | .tuple ds => if ds.length = n then r ds en else none
  | _ => none
theorem fg_g {i : Nat} (h : PG X e (gName i)) : PG X e (FG Rep X.K [i] (gN i)) := pg_imp h fun v σ H Q ⟨G, en, d, en', S, r, e1, k⟩ => by
  obtain ⟨hl, e2⟩ := ite_some e1
  cases e2
  exact k _ G H (StepG.put S hl r) ⟨List.length_set, fun j hj => List.getElem?_set_ne fun z => hj (by rw [z]; exact List.mem_singleton_self _)⟩
theorem fg_name {i : Nat} {x : Str} (hN : X.N.Nodup) (hi : X.N[i]? = some x := by rfl) (hx : Loc X.env.scope x := by first | exact .inl rfl | exact .inr rfl) (hf : X.fn x = true ∨ X.env.scope.names.lookup x = some .local := by first | exact .inl rfl | exact .inr rfl | assumption) : PG X (.Name x pos) (FG Rep X.K [i] (gN i)) :=
  fg_g (pg_name hN hi hx hf)
theorem fgs_nil : PGs X [] (FGs X.K [] gsNil) := pgs_imp pgs_nil fun vs σ H Q ⟨G, en, ds, en', S, r, e1, k⟩ => by
  cases r with
  | nil =>
    cases e1
    exact ⟨rfl, k σ G H (StepG.refl S) ⟨rfl, fun _ _ => rfl⟩⟩
  | cons _ _ => cases e1
theorem fgs_cons {es : List Expr} {s : Gv} {t1 t2 : List Nat} {r : List D → En → Option En} (h1 : PG X e (FG Rep X.K t1 s)) (h2 : PGs X es (FGs X.K t2 r)) (hs : (assignEach (e :: es) X.env).map (·.2) = assign e X.env :: (assignEach es X.env).map (·.2) := by rfl) : PGs X (e :: es) (FGs X.K (t1 ++ t2) (gsCons s r)) :=
  pgs_imp (pgs_cons h1 h2 hs) fun vs σ H Q ⟨G, en, ds, en', S, rr, e1, k⟩ => by
    cases rr with
    | nil => cases e1
    | cons h t =>
      obtain ⟨en1, p1, p2⟩ := Option.bind_eq_some_iff.mp e1
      exact ⟨_, _, rfl, G, en, _, en1, S, h, p1, fun σ1 G1 H1 T k1 => ⟨G1, en1, _, en', T.sr, t.mono T.ext.g, p2, fun σ2 G2 H2 T2 k2 => k σ2 G2 H2 (T.trans T2) ⟨k2.1.trans k1.1, fun i hi => (k2.2 i fun z => hi (List.mem_append_right _ z)).trans (k1.2 i fun z => hi (List.mem_append_left _ z))⟩⟩⟩
theorem fg_pair {es : List Expr} {k1 : Nat} {ts : List Nat} {r : List D → En → Option En} {n : Nat} (hc : X.calm = true) (h : PGs X es (FGs X.K ts r)) (hn : (assignEach es X.env).length = n := by rfl) (hst : (assignEach es X.env).findIdx? (·.1) = none := by rfl) : PG X (.Tuple es k1 pos) (FG RepP X.K ts (gT n r)) :=
  pg_imp (pg_tup hc h hn hst) fun v σ H Q ⟨G, en, d, en', S, ⟨a, xs, ds, e3, e4, h1, h2⟩, e1, k⟩ => by
    subst e4
    obtain ⟨hl, e2⟩ := ite_some (show (if ds.length = n then r ds en else none) = some en' from e1)
    exact ⟨a, xs, e3, seqT S.sub h1, h2.length.trans hl, G, en, ds, en', S, h2, e2, k⟩
theorem fg_tup {es : List Expr} {k1 : Nat} {ts : List Nat} {r : List D → En → Option En} {n : Nat} (hc : X.calm = true) (h : PGs X es (FGs X.K ts r)) (hn : (assignEach es X.env).length = n := by rfl) (hst : (assignEach es X.env).findIdx? (·.1) = none := by rfl) : PG X (.Tuple es k1 pos) (FG Rep X.K ts (gT n r)) :=
  pg_imp (pg_tup hc h hn hst) fun v σ H Q ⟨G, en, d, en', S, rr, e1, k⟩ => by
    cases d <;> first | (cases e1; done) | skip
    rename_i ds
    obtain ⟨hl, e2⟩ := ite_some (show (if ds.length = n then r ds en else none) = some en' from e1)
    cases rr with
    | tup h1 h2 => exact ⟨_, _, rfl, seqT S.sub h1.sq, h2.length.trans hl, G, en, ds, en', S, h2, e2, k⟩
def sAsg (f : Vv) (s : Gv) : Sv := fun en => (f en).bind fun x => (s x.1 x.2).map fun e' => (.nx, e')
theorem fs_asg {tg : Expr} {f : Vv} {ts : List Nat} {s : Gv} (he : PE X e (FV X.K f)) (hg : PG X tg (FG Rep X.K ts s)) (hs : swapsWithSole [tg] e pos.line X.env = pure false := by rfl) (hw : swappedStores [tg] e X.env = pure none := by rfl) (h1 : (assignEach [tg] X.env).map (·.2) = [assign tg X.env] := by rfl) :
    PS X (.Assign [tg] e pos) (FS X.K (sAsg f s)) := ps_imp (ps_asg he hg hs hw h1) fun D σ H ⟨G, en, o, en', S, e1, k⟩ => by
  obtain ⟨⟨d, en1⟩, p1, e2⟩ := Option.bind_eq_some_iff.mp e1
  obtain ⟨en2, p2, e3⟩ := Option.map_eq_some_iff.mp e2
  cases e3
  exact ⟨G, en, d, en1, S, p1, fun v G1 H1 T r => ⟨G1, en1, d, _, T.sr, r, p2, fun σ2 G2 H2 T2 _ => k G2 H2 σ2 (T.s.trans T2.s)⟩⟩

/-! ### while -/
def whileL (t : Tv) (b : Sv) : Nat → Sv
  | 0 => fun _ => none
  | n + 1 => fun en => (t en).bind fun x => if x.1 = true then (b x.2).bind fun y => match y.1 with
    | .nx => whileL t b n y.2
    | .ct => whileL t b n y.2
    | .bk => some (.nx, y.2)
    | .rt d c => some (.rt d c, y.2)
    else some (.nx, x.2)
theorem fs_while {c : Expr} {body : List Stmt} {t : Tv} {b : Sv} {n : Nat} (hp : PassesOwn (model X.prog X.w) X.A X.env X.xe) (hc : PT X c (FT X.K t)) (hb : PSs X body (FS X.K b)) : PS X (.While c body [] pos) (FS X.K (whileL t b n)) := ps_imp (ps_while hp hc hb) fun D σ H ⟨G, en, o, en', S, e1, k⟩ => by
  refine ⟨fun m σ1 H1 => ∃ G1 en1, StepS X.K en σ G H en1 σ1 G1 H1 ∧ whileL t b m en1 = some (o, en'), ⟨n, G, en, StepS.refl S, e1⟩, ?_⟩
  rintro m σ1 H1 ⟨G1, en1, T, w⟩
  cases m with
  | zero => cases w
  | succ m =>
    obtain ⟨⟨c1, en2⟩, p1, e2⟩ := Option.bind_eq_some_iff.mp (show ((t en1).bind fun x => if x.1 = true then (b x.2).bind fun y => match y.1 with
      | .nx => whileL t b m y.2
      | .ct => whileL t b m y.2
      | .bk => some (.nx, y.2)
      | .rt d c => some (.rt d c, y.2)
      else some (.nx, x.2)) = some (o, en') from w)
    refine ⟨G1, en1, c1, en2, T.sr, p1, fun G2 H2 T2 => ?_⟩
    have T12 := T.trans T2.s
    cases c1 with
    | false =>
      cases e2
      exact iteF (k G2 H2 σ1 T12)
    | true =>
      refine iteT ⟨fun σ' H' => ∃ G' e', StepS X.K en σ G H e' σ' G' H' ∧ whileL t b m e' = some (o, en'), fun σ' H' ⟨G', e', T', w'⟩ => ⟨m, Nat.lt_succ_self m, G', e', T', w'⟩, ?_⟩
      obtain ⟨⟨o3, en3⟩, p3, e3⟩ := Option.bind_eq_some_iff.mp (show ((b en2).bind fun y => match y.1 with
        | .nx => whileL t b m y.2
        | .ct => whileL t b m y.2
        | .bk => some (.nx, y.2)
        | .rt d c => some (.rt d c, y.2)) = some (o, en') from e2)
      refine ⟨G2, en2, o3, en3, T2.sr, p3, ?_⟩
      cases o3 with
      | nx => exact fun G' H' σ' T3 => ⟨G', en3, T12.trans T3, e3⟩
      | ct => exact fun G' H' σ' T3 => ⟨G', en3, T12.trans T3, e3⟩
      | bk =>
        cases e3
        exact fun G' H' σ' T3 => k G' H' σ' (T12.trans T3)
      | rt d b =>
        cases e3
        exact fun v G' H' σ' T3 r => k v G' H' σ' (T12.trans T3) (resS T12 r)

/-! ### for -/
/-- an iterator that gives these -/
def JOk (R : Given) (K : PySem.W.Frag) (J : It) (G0 : Hp) (ds : List D) : Prop := ∀ i G H, Same G0 G → Same G H → (ds.length ≤ i → J.stop i H) ∧ ∀ d, ds[i]? = some d → J.go i H ∧ ∀ x H', J.yld i H x H' → ∃ G', New G H G' H' ∧ R K G' x d
def FI (R : Given) (K : PySem.W.Frag) (f : Lv) : TI := fun σ H Q => ∃ G en ds en', SR K G H en σ ∧ f en = some (ds, en') ∧ ∀ J G' H', Step K en en' σ G H G' H' → JOk R K J G' ds → Q J H'
theorem pi_imp {tg iter : Expr} {t t' : TI} (h : PI X tg iter t) (k : ∀ σ H R, t' σ H R → t σ H R) : PI X tg iter t' := ⟨fun pins s σ H R I q => h.run pins s σ H R I (k _ _ _ q)⟩
def forL (s : Gv) (b : Sv) : List D → Sv
  | [] => fun en => some (.nx, en)
  | d :: ds => fun en => (s d en).bind fun e1 => (b e1).bind fun y => match y.1 with
    | .nx => forL s b ds y.2
    | .ct => forL s b ds y.2
    | .bk => some (.nx, y.2)
    | .rt d c => some (.rt d c, y.2)
def sFor (it : Lv) (s : Gv) (b : Sv) : Sv := fun en => (it en).bind fun x => forL s b x.1 x.2
theorem fs_for {R : Given} {tg iter : Expr} {body : List Stmt} {it : Lv} {ts : List Nat} {s : Gv} {b : Sv} (hp : PassesOwn (model X.prog X.w) X.A X.env X.xe) (hc : X.calm = true) (hi : PI X tg iter (FI R X.K it)) (hg : PG X tg (FG R X.K ts s)) (hb : PSs X body (FS X.K b)) (hs : ∀ x, foldedSetIterable iter X.env x = pure x := by intro _; rfl) :
    PS X (.For tg iter body [] pos) (FS X.K (sFor it s b)) := ps_imp (ps_for hp hc hi hg hb hs) fun D σ H ⟨G, en, o, en', S, e1, k⟩ => by
  obtain ⟨⟨ds, en1⟩, p1, e2⟩ := Option.bind_eq_some_iff.mp e1
  refine ⟨G, en, ds, en1, S, p1, fun J G1 H1 T1 hJ => ?_⟩
  refine ⟨fun i m σ2 H2 => ∃ G2 en2, StepS X.K en σ G H en2 σ2 G2 H2 ∧ Same G1 G2 ∧ m = ds.length - i ∧ forL s b (ds.drop i) en2 = some (o, en'), ⟨_, G1, en1, T1.s, Same.refl _, rfl, e2⟩, ?_⟩
  rintro i m σ2 H2 ⟨G2, en2, T2, g2, rfl, w⟩
  obtain ⟨j1, j2⟩ := hJ i G2 H2 g2 T2.sr.sub
  by_cases hi : i < ds.length
  · rw [List.drop_eq_getElem_cons hi] at w
    obtain ⟨en3, p3, e3⟩ := Option.bind_eq_some_iff.mp w
    obtain ⟨⟨o4, en4⟩, p4, e4⟩ := Option.bind_eq_some_iff.mp e3
    obtain ⟨j3, j4⟩ := j2 ds[i] (List.getElem?_eq_getElem hi)
    refine .inr ⟨j3, fun σ' H' => ∃ G' e', StepS X.K en σ G H e' σ' G' H' ∧ Same G1 G' ∧ forL s b (ds.drop (i + 1)) e' = some (o, en'), fun σ' H' ⟨G', e', T', g', w'⟩ => ⟨ds.length - (i + 1), by omega, G', e', T', g', rfl, w'⟩, fun x H3 hy => ?_⟩
    obtain ⟨G3, N3, r3⟩ := j4 x H3 hy
    have T3 := T2.trans (N3.step T2.sr).s
    refine ⟨G3, en2, _, en3, T3.sr, r3, p3, fun σ4 G4 H4 T4 _ => ?_⟩
    have T34 := T3.trans T4.s
    have g4 : Same G1 G4 := (g2.trans N3.ext.g).trans T4.ext.g
    refine ⟨G4, en3, o4, en4, T4.sr, p4, ?_⟩
    cases o4 with
    | nx => exact fun G' H' σ' T5 => ⟨G', en4, T34.trans T5, g4.trans T5.ext.g, e4⟩
    | ct => exact fun G' H' σ' T5 => ⟨G', en4, T34.trans T5, g4.trans T5.ext.g, e4⟩
    | bk =>
      cases e4
      exact fun G' H' σ' T5 => k G' H' σ' (T34.trans T5)
    | rt d b =>
      cases e4
      exact fun v G' H' σ' T5 r => k v G' H' σ' (T34.trans T5) (resS T34 r)
  · rw [List.drop_eq_nil_of_le (by omega)] at w
    cases w
    exact .inl ⟨j1 (by omega), k G2 H2 σ2 T2⟩
end

/-! ### the bodies of defs -/
section
variable {P : Program} {w : World} {K : PySem.W.Frag} {mg : Str → Option Value} {base : Heap} {x qual : Str} {params : Arguments} {body : List Stmt} {scope : Scope} {f : Addr} {fd : FuncData} {N ps : List Str} {k : Nat} {g : Sv}
theorem reps_start {G H : Hp} (s : Same G H) {vs : List V} {ds : List D} (r : Reps K G vs ds) : SR K G H (ini N.length ds) (L2.start N vs) := by
  have hl := r.length
  have at_ : ∀ (i : Nat) (d : D) (f : Fl), (ini N.length ds)[i]? = some (some (d, f)) → f = .sh ∧ ds[i]? = some d := fun i d f q => by
    unfold ini at q
    by_cases hi : i < ds.length
    · rw [List.getElem?_append_left (by simpa using hi), List.getElem?_map, List.getElem?_eq_getElem hi] at q
      cases q
      exact ⟨rfl, List.getElem?_eq_getElem hi⟩
    · rw [List.getElem?_append_right (by simpa using hi), List.getElem?_replicate] at q
      split at q <;> cases q
  refine ⟨s, ?_, fun i d q => ?_, fun i d f q n => absurd (at_ i d f q).1 n, fun i j d e f g a q1 n1 => absurd (at_ i d f q1).1 n1⟩
  · unfold ini L2.start
    rw [List.length_append, List.length_append, List.length_map, List.length_map, List.length_replicate, List.length_replicate, hl]
  · obtain ⟨v, h1, h2⟩ := r.get' (at_ i d _ q).2
    refine ⟨v, ?_, h2⟩
    unfold L2.start
    have hi := (List.getElem?_eq_some_iff.mp h1).1
    rw [List.getElem?_append_left (by simpa using hi), List.getElem?_map, h1]
    rfl
theorem ok_def0 (F : FunD K x qual params body scope [] [] f fd) (S : FnScope N ps scope) (hb : ∀ (cdv : Value) (A : Around) (outer : List Env) (s : Shared) (H : Hp) (E : XK), Room k (A.deeper (PyProof.Rows.envOfC qual scope s.heap.objs.size f cdv)) → PSs (cxOf CX0 P w K mg base N qual scope f cdv A outer s H E).nox body (FS K g)) :
    FnOk P w K mg base CX0 (k + 1) f fd ps (sp0 K ps.length (mk0 N.length g)) := by
  refine F.ok S (fun vs H Q E ⟨G, ds, d, b, _, r, hl, _⟩ => r.length.trans hl) fun cdv A outer s H vs Q E hr ⟨G, ds, d, b, sm, r, hl, e, q⟩ => ⟨FS K g, PSs.nox (hb cdv A outer s H E hr), ?_⟩
  obtain ⟨⟨o, en'⟩, p1, e1⟩ := Option.bind_eq_some_iff.mp e
  have S0 := reps_start (N := N) sm r
  have no : ∀ x, ¬ OwnA (ini N.length ds) (L2.start N vs) x := fun x ⟨i, d, f, q1, n, _⟩ => by
    by_cases hi : f = .sh
    · exact n hi
    · obtain ⟨a, o, _⟩ := S0.own i d f q1 n
      unfold ini at q1
      by_cases hj : i < ds.length
      · rw [List.getElem?_append_left (by simpa using hj), List.getElem?_map, List.getElem?_eq_getElem hj] at q1
        cases q1
        exact n rfl
      · rw [List.getElem?_append_right (by simpa using hj), List.getElem?_replicate] at q1
        split at q1 <;> cases q1
  have nw : ∀ {G' H' : Hp} {σ' : St}, StepS K (ini N.length ds) (L2.start N vs) G H en' σ' G' H' → New G H G' H' := fun {G' H' σ'} T => ⟨T.ext.weak fun x _ z _ => no x z, T.sr.sub⟩
  refine ⟨G, _, o, en', S0, p1, ?_⟩
  cases o with
  | nx =>
    cases e1
    exact fun G' H' σ' T => q _ G' H' (nw T) Rep.non
  | bk => cases e1
  | ct => cases e1
  | rt d2 b2 =>
    cases e1
    intro v G' H' σ' T r2
    refine q v G' H' (nw T) ?_
    cases b with
    | false => exact r2
    | true =>
      obtain ⟨a, u, e5, w1, w2, w3, w4, w5⟩ := r2
      exact ⟨a, u, e5, .inl (w1.resolve_right (no a)), fun z => z, w3, w4, w5⟩
theorem ok_defW (F : FunD K x qual params body scope [] [] f fd) (S : FnScope N ps scope) {np : Nat} (hnp : ps.length = np + 1) (hN : 0 < N.length) (hb : ∀ (cdv : Value) (A : Around) (outer : List Env) (s : Shared) (H : Hp) (E : XK), Room k (A.deeper (PyProof.Rows.envOfC qual scope s.heap.objs.size f cdv)) → PSs (cxOf CX0 P w K mg base N qual scope f cdv A outer s H E).nox body (FS K g)) :
    FnOk P w K mg base CX0 (k + 1) f fd ps (spW K np (mkW N.length g)) := by
  refine F.ok S (fun vs H Q E ⟨G, a, o, dw, ws, ds, d, b, dw', e, _, _, _, _, r, hl, _⟩ => by rw [e, List.length_cons, r.length, hl, hnp]) fun cdv A outer s H vs Q E hr ⟨G, a, o, dw, ws, ds, d, b, dw', ev, sm, ga, ha, ro, r, hl, e, q⟩ => ⟨FS K g, PSs.nox (hb cdv A outer s H E hr), ?_⟩
  subst ev
  obtain ⟨⟨o1, en'⟩, p1, e0⟩ := Option.bind_eq_some_iff.mp e
  obtain ⟨dw2, p2, e1⟩ := Option.bind_eq_some_iff.mp e0
  have R := reps_start (N := N.drop 1) sm r
  have el : (N.drop 1).length = N.length - 1 := by rw [List.length_drop]
  rw [el] at R
  have es : L2.start N (.ref a :: ws) = some (.ref a) :: L2.start (N.drop 1) ws := by
    unfold L2.start
    rw [el, List.map_cons, List.cons_append, List.length_cons, Nat.sub_sub, Nat.add_comm 1]
  rw [es]
  have S0 : SR K G H (some (dw, Fl.lent) :: ini (N.length - 1) ds) (some (.ref a) :: L2.start (N.drop 1) ws) := by
    refine ⟨sm, congrArg Nat.succ R.len, fun i d q => ?_, fun i d f q n => ?_, fun i j d e f g b q1 n1 q2 n2 s1 s2 => ?_⟩
    · cases i with
      | zero => cases q
      | succ i => exact R.shd i d q
    · cases i with
      | zero =>
        cases q
        exact ⟨a, o, rfl, ga, ha, ro⟩
      | succ i => exact R.own i d f q n
    · have no : ∀ (i : Nat) (d : D) (f : Fl), (some (dw, Fl.lent) :: ini (N.length - 1) ds)[i]? = some (some (d, f)) → f ≠ .sh → i = 0 := fun i d f q n => by
        cases i with
        | zero => rfl
        | succ i =>
          obtain ⟨_, _, _⟩ := R.own i d f q n
          have q' : (ini (N.length - 1) ds)[i]? = some (some (d, f)) := q
          unfold ini at q'
          by_cases hj : i < ds.length
          · rw [List.getElem?_append_left (by simpa using hj), List.getElem?_map, List.getElem?_eq_getElem hj] at q'
            cases q'
            exact absurd rfl n
          · rw [List.getElem?_append_right (by simpa using hj), List.getElem?_replicate] at q'
            split at q' <;> cases q'
      rw [no i d f q1 n1, no j e g q2 n2]
  have only : ∀ x, OwnA (some (dw, Fl.lent) :: ini (N.length - 1) ds) (some (.ref a) :: L2.start (N.drop 1) ws) x → x = a := fun x ⟨i, d, f, q1, n, z⟩ => by
    have e0 := S0.sep i 0 d dw f .lent x q1 n rfl (by decide) z
    cases i with
    | zero =>
      cases z
      rfl
    | succ i =>
      have q' : (ini (N.length - 1) ds)[i]? = some (some (d, f)) := q1
      unfold ini at q'
      by_cases hj : i < ds.length
      · rw [List.getElem?_append_left (by simpa using hj), List.getElem?_map, List.getElem?_eq_getElem hj] at q'
        cases q'
        exact absurd rfl n
      · rw [List.getElem?_append_right (by simpa using hj), List.getElem?_replicate] at q'
        split at q' <;> cases q'
  have me : OwnA (some (dw, Fl.lent) :: ini (N.length - 1) ds) (some (.ref a) :: L2.start (N.drop 1) ws) a := ⟨0, dw, .lent, rfl, by decide, rfl⟩
  have fin : ∀ {G' H' : Hp} {σ' : St} {v : V} {d : D} {b : Bool}, StepS K (some (dw, Fl.lent) :: ini (N.length - 1) ds) (some (.ref a) :: L2.start (N.drop 1) ws) G H en' σ' G' H' → Res K (OwnA (some (dw, Fl.lent) :: ini (N.length - 1) ds) (some (.ref a) :: L2.start (N.drop 1) ws)) H (OwnA en' σ') G' H' v d b →
      (∀ o', Ext (fun x => x = a) G H G' H' → Same G' H' → G' a = none → H' a = some o' → RepO K G' o' dw2 → Res K (fun x => x = a) H (fun x => x = a) G' H' v d b → Q v H') → Q v H' := by
    intro G' H' σ' v d b T r2 q2
    obtain ⟨_, st⟩ := T.lent 0 dw rfl
    have en0 := lentAt_of p2
    obtain ⟨a', o', s1, s2, s3, s4⟩ := T.sr.own 0 dw2 .lent en0 (by decide)
    rw [st] at s1
    cases s1
    have me' : OwnA en' σ' a := ⟨0, dw2, .lent, en0, by decide, st⟩
    refine q2 o' (T.ext.weak fun x _ z _ => only x z) T.sr.sub s2 s3 s4 ?_
    cases b with
    | false => exact r2
    | true =>
      obtain ⟨c, u, e5, w1, w2, w3, w4, w5⟩ := r2
      refine ⟨c, u, e5, ?_, fun z => w2 (by rw [z]; exact me'), w3, w4, w5⟩
      rcases w1 with w1 | w1
      · exact .inl w1
      · exact .inr (only c w1)
  refine ⟨G, _, o1, en', S0, p1, ?_⟩
  cases o1 with
  | nx =>
    cases e1
    exact fun G' H' σ' T => fin (b := false) T Rep.non fun o' E s g h ro' R' => q _ G' H' o' E s g h ro' R'
  | bk => cases e1
  | ct => cases e1
  | rt d2 b2 =>
    cases e1
    exact fun v G' H' σ' T r2 => fin T r2 fun o' E s g h ro' R' => q v G' H' o' E s g h ro' R'
end
end Fx
/-! Fx5: what is walked, comprehensions. -/
namespace Fx
open PySem PySem.Spec L2
/-! ### the block's own names are forgotten, and come back -/
def wipeE (en : En) : List Nat → En
  | [] => en
  | v :: vs => (wipeE en vs).set v none
def backE (e0 e1 : En) : List Nat → En
  | [] => e1
  | v :: vs => match e0[v]? with
    | some x => (backE e0 e1 vs).set v x
    | none => backE e0 e1 vs
section
variable {K : PySem.W.Frag} {G H G1 H1 G2 H2 : Hp} {en en1 en2 : En} {σ σ1 : St}
theorem wipeE_len (en : En) : ∀ vs : List Nat, (wipeE en vs).length = en.length
  | [] => rfl
  | v :: vs => by unfold wipeE; rw [List.length_set, wipeE_len en vs]
theorem wipeE_at {i : Nat} {x : D × Fl} : ∀ {vs : List Nat}, (wipeE en vs)[i]? = some (some x) → en[i]? = some (some x) ∧ i ∉ vs
  | [], h => ⟨h, by simp⟩
  | v :: vs, h => by
    unfold wipeE at h
    rcases set_at h with ⟨_, w, _⟩ | ⟨hi, w⟩
    · cases w
    · obtain ⟨h1, h2⟩ := wipeE_at w
      exact ⟨h1, by simp only [List.mem_cons, not_or]; exact ⟨hi, h2⟩⟩
theorem wipeE_off {i : Nat} : ∀ {vs : List Nat}, i ∉ vs → (wipeE en vs)[i]? = en[i]?
  | [], _ => rfl
  | v :: vs, h => by
    simp only [List.mem_cons, not_or] at h
    unfold wipeE
    rw [List.getElem?_set_ne (Ne.symm h.1), wipeE_off h.2]
theorem wipe_off {i : Nat} : ∀ {vs : List Nat}, i ∉ vs → (wipe σ vs)[i]? = σ[i]?
  | [], _ => rfl
  | v :: vs, h => by
    simp only [List.mem_cons, not_or] at h
    unfold wipe
    rw [List.getElem?_set_ne (Ne.symm h.1), wipe_off h.2]
theorem wipe_on {i : Nat} : ∀ {vs : List Nat}, i ∈ vs → i < σ.length → (wipe σ vs)[i]? = some none
  | v :: vs, h, hl => by
    unfold wipe
    by_cases hi : i = v
    · subst hi
      exact List.getElem?_set_self (by rw [wipe_length]; exact hl)
    · rw [List.getElem?_set_ne (Ne.symm hi)]
      exact wipe_on ((List.mem_cons.mp h).resolve_left hi) hl
theorem SR.wipe {vs : List Nat} (S : SR K G H en σ) : SR K G H (wipeE en vs) (wipe σ vs) := by
  refine ⟨S.sub, by rw [wipeE_len, wipe_length]; exact S.len, fun i d q => ?_, fun i d f q n => ?_, fun i j d e f g a q1 n1 q2 n2 s1 s2 => ?_⟩
  · obtain ⟨q1, q2⟩ := wipeE_at q
    obtain ⟨v, s1, s2⟩ := S.shd i d q1
    exact ⟨v, by rw [wipe_off q2]; exact s1, s2⟩
  · obtain ⟨q1, q2⟩ := wipeE_at q
    obtain ⟨a, o, s1, s2⟩ := S.own i d f q1 n
    exact ⟨a, o, by rw [wipe_off q2]; exact s1, s2⟩
  · obtain ⟨q1, h1⟩ := wipeE_at q1
    obtain ⟨q2, h2⟩ := wipeE_at q2
    rw [wipe_off h1] at s1
    rw [wipe_off h2] at s2
    exact S.sep i j d e f g a q1 n1 q2 n2 s1 s2
theorem own_wipe {vs : List Nat} {b : Addr} (h : OwnA (wipeE en vs) (wipe σ vs) b) : OwnA en σ b := by
  obtain ⟨i, d, f, q, n, s⟩ := h
  obtain ⟨q1, q2⟩ := wipeE_at q
  rw [wipe_off q2] at s
  exact ⟨i, d, f, q1, n, s⟩
theorem backE_len {e0 e1 : En} (h : e0.length = e1.length) : ∀ vs : List Nat, (backE e0 e1 vs).length = e1.length
  | [] => rfl
  | v :: vs => by
    unfold backE
    split
    · rw [List.length_set, backE_len h vs]
    · exact backE_len h vs
theorem backE_at {e0 e1 : En} {i : Nat} {x : Option (D × Fl)} (h : e0.length = e1.length) : ∀ {vs : List Nat}, (backE e0 e1 vs)[i]? = some x → (i ∈ vs ∧ e0[i]? = some x) ∨ (i ∉ vs ∧ e1[i]? = some x)
  | [], q => .inr ⟨by simp, q⟩
  | v :: vs, q => by
    unfold backE at q
    split at q
    · rename_i y e
      rcases set_at q with ⟨rfl, w, _⟩ | ⟨hi, w⟩
      · exact .inl ⟨List.mem_cons_self .., by rw [e, w]⟩
      · rcases backE_at h w with ⟨a, b⟩ | ⟨a, b⟩
        · exact .inl ⟨List.mem_cons_of_mem _ a, b⟩
        · exact .inr ⟨by simp only [List.mem_cons, not_or]; exact ⟨hi, a⟩, b⟩
    · rename_i e
      have hv : e0.length ≤ v := List.getElem?_eq_none_iff.mp e
      have hi : i < (backE e0 e1 vs).length := (List.getElem?_eq_some_iff.mp q).1
      rw [backE_len h] at hi
      have ne : i ≠ v := by omega
      rcases backE_at h q with ⟨a, b⟩ | ⟨a, b⟩
      · exact .inl ⟨List.mem_cons_of_mem _ a, b⟩
      · exact .inr ⟨by simp only [List.mem_cons, not_or]; exact ⟨ne, a⟩, b⟩
theorem backE_on {e0 e1 : En} {i : Nat} (h : e0.length = e1.length) (vs : List Nat) (hi : i < e1.length) : (i ∈ vs → (backE e0 e1 vs)[i]? = e0[i]?) ∧ (i ∉ vs → (backE e0 e1 vs)[i]? = e1[i]?) := by
  have hb : i < (backE e0 e1 vs).length := by rw [backE_len h]; exact hi
  have q := List.getElem?_eq_getElem hb
  rcases backE_at h q with ⟨a, b⟩ | ⟨a, b⟩
  · exact ⟨fun _ => by rw [q, b], fun n => absurd a n⟩
  · exact ⟨fun n => absurd n a, fun _ => by rw [q, b]⟩
/-- behind the block the slots stand as ahead of it, but for what was written -/
theorem StepG.back {vs : List Nat} (S : SR K G H en σ) (T : StepG K (wipeE en vs) (wipe σ vs) G H en1 (wipe σ vs) G1 H1) : Step K en (backE en en1 vs) σ G H G1 H1 := by
  have hl : en.length = en1.length := by
    have := T.sr.len
    rw [wipe_length] at this
    rw [this]; exact S.len
  have off : ∀ {i : Nat} {w : Option V}, i ∉ vs → (wipe σ vs)[i]? = some w → σ[i]? = some w := fun {i w} n q => by rw [wipe_off n] at q; exact q
  have far : ∀ {i : Nat} {d : D} {f : Fl} {a : Addr}, i ∈ vs → en[i]? = some (some (d, f)) → f ≠ .sh → σ[i]? = some (some (.ref a)) → ¬ OwnA (wipeE en vs) (wipe σ vs) a := fun {i d f a} hi q n s ⟨j, d2, g, q2, n2, s2⟩ => by
    obtain ⟨q3, h3⟩ := wipeE_at q2
    rw [wipe_off h3] at s2
    exact h3 (S.sep i j d d2 f g a q n q3 n2 s s2 ▸ hi)
  refine ⟨T.ext.weak fun b o z _ => own_wipe z, ⟨T.sr.sub, by rw [backE_len hl, ← hl]; exact S.len, fun i d q => ?_, fun i d f q n => ?_, fun i j d e f g a q1 n1 q2 n2 s1 s2 => ?_⟩, fun b ⟨i, d, f, q, n, s⟩ => ?_, fun i d q => ?_⟩
  · rcases backE_at hl q with ⟨a, b⟩ | ⟨a, b⟩
    · obtain ⟨v, s1, s2⟩ := S.shd i d b
      exact ⟨v, s1, s2.mono T.ext.g⟩
    · obtain ⟨v, s1, s2⟩ := T.sr.shd i d b
      exact ⟨v, off a s1, s2⟩
  · rcases backE_at hl q with ⟨a, b⟩ | ⟨a, b⟩
    · obtain ⟨x, o, s1, s2, s3, s4⟩ := S.own i d f b n
      have nf := far a b n s1
      exact ⟨x, o, s1, T.ext.n x o s3 nf s2, T.ext.h x o s3 nf, s4.mono T.ext.g⟩
    · obtain ⟨x, o, s1, s2⟩ := T.sr.own i d f b n
      exact ⟨x, o, off a s1, s2⟩
  · have cross : ∀ (i j : Nat) (d e : D) (f g : Fl), i ∈ vs → en[i]? = some (some (d, f)) → f ≠ .sh → j ∉ vs → en1[j]? = some (some (e, g)) → g ≠ .sh → σ[i]? = some (some (.ref a)) → σ[j]? = some (some (.ref a)) → False := fun i j d e f g hi q n hj q' n' s s' =>
      far hi q n s (T.own a ⟨j, e, g, q', n', by rw [wipe_off hj]; exact s'⟩)
    rcases backE_at hl q1 with ⟨a1, b1⟩ | ⟨a1, b1⟩
    · rcases backE_at hl q2 with ⟨a2, b2⟩ | ⟨a2, b2⟩
      · exact S.sep i j d e f g a b1 n1 b2 n2 s1 s2
      · exact (cross i j d e f g a1 b1 n1 a2 b2 n2 s1 s2).elim
    · rcases backE_at hl q2 with ⟨a2, b2⟩ | ⟨a2, b2⟩
      · exact (cross j i e d g f a2 b2 n2 a1 b1 n1 s2 s1).elim
      · exact T.sr.sep i j d e f g a b1 n1 b2 n2 (by rw [wipe_off a1]; exact s1) (by rw [wipe_off a2]; exact s2)
  · rcases backE_at hl q with ⟨a, b⟩ | ⟨a, b⟩
    · exact ⟨i, d, f, b, n, s⟩
    · exact own_wipe (T.own _ ⟨i, d, f, b, n, by rw [wipe_off a]; exact s⟩)
  · have hi : i < en1.length := by rw [← hl]; exact (List.getElem?_eq_some_iff.mp q).1
    obtain ⟨k1, k2⟩ := backE_on hl vs hi
    by_cases hv : i ∈ vs
    · exact ⟨d, by rw [k1 hv]; exact q⟩
    · obtain ⟨⟨d', e'⟩, _⟩ := T.lent i d (by rw [wipeE_off hv]; exact q)
      exact ⟨d', by rw [k2 hv]; exact e'⟩
/-- an object of nobody is written -/
theorem SR.nobody {a : Addr} {o o' : HO} (S : SR K G H en σ) (h : H a = some o) (g : G a = none) (n : ¬ OwnA en σ a) : SR K G (upd H a o') en σ := by
  refine ⟨fun b u e => ?_, S.len, S.shd, fun i d f q n1 => ?_, S.sep⟩
  · have hb : b ≠ a := fun z => by rw [z, g] at e; cases e
    rw [upd_ne hb]
    exact S.sub b u e
  · obtain ⟨x, u, s1, s2, s3, s4⟩ := S.own i d f q n1
    have hb : x ≠ a := fun z => n ⟨i, d, f, q, n1, by rw [← z]; exact s1⟩
    exact ⟨x, u, s1, s2, by rw [upd_ne hb]; exact s3, s4⟩
theorem Ext.nobody {O : Addr → Prop} {a : Addr} {o' : HO} (E : Ext O G H G1 H1) (h : H a = none) : Ext O G H G1 (upd H1 a o') := by
  refine ⟨E.g, fun b u e n => ?_, E.n, fun b e => ?_⟩
  · rw [upd_ne (ne_of_none e h)]
    exact E.h b u e n
  · by_cases hb : b = a
    · rw [hb]; exact h
    · rw [upd_ne hb] at e
      exact E.t b e
end
/-! ### the tests of a clause -/
def tTrue : Tv := fun en => some (true, en)
section
variable {X : Cx} {e : Expr} {pos : Pos}
theorem ft_none : PTs X [] (FT X.K tTrue) := ⟨fun pins s σ H Q I ⟨G, en, b, en', S, e1, k⟩ => by
  cases e1
  exact pts_nil.run pins s σ H Q I (k G H (Step.refl S))⟩
theorem ft_one {c : Expr} {t : Tv} (h : PT X c (FT X.K t)) : PTs X [c] (FT X.K t) := pts_one h
/-! ### [elt for target in iter if test] -/
def lcL (vs : List Nat) (s : Gv) (t : Tv) (f : Vv) : List D → En → Option (List D × En)
  | [], en => some ([], en)
  | d :: ds, en => (s d (wipeE en vs)).bind fun e1 => (t e1).bind fun x => if x.1 = true then (f x.2).bind fun y => (lcL vs s t f ds (wipeE y.2 vs)).map fun r => (y.1 :: r.1, r.2) else lcL vs s t f ds (wipeE x.2 vs)
def fLc (vs : List Nat) (it : Lv) (s : Gv) (t : Tv) (f : Vv) : Ev := fun en => (it en).bind fun x => (lcL vs s t f x.1 (wipeE x.2 vs)).bind fun y => if y.1.length ≤ sizeLine then some (.list y.1, true, backE x.2 y.2 vs) else none
theorem wipe_wipe {K : PySem.W.Frag} {σ σ2 : St} {vs ts : List Nat} (hs : ∀ i ∈ ts, i ∈ vs) (hl : σ2.length = σ.length) (k : ∀ i, i ∉ ts → σ2[i]? = (wipe σ vs)[i]?) : wipe σ2 vs = wipe σ vs := by
  apply List.ext_getElem?
  intro i
  by_cases hi : i ∈ vs
  · by_cases hn : i < σ.length
    · rw [wipe_on hi hn, wipe_on hi (by rw [hl]; exact hn)]
    · rw [List.getElem?_eq_none (by rw [wipe_length]; omega), List.getElem?_eq_none (by rw [wipe_length]; omega)]
  · rw [wipe_off hi, k i fun z => hi (hs i z)]
theorem wipeE_wipeE {en : En} {vs : List Nat} : wipeE (wipeE en vs) vs = wipeE en vs := by
  have on : ∀ {e : En} {us : List Nat} {i : Nat}, i ∈ us → i < e.length → (wipeE e us)[i]? = some none := by
    intro e us
    induction us with
    | nil => intro i h; cases h
    | cons v us ih =>
      intro i h hl
      unfold wipeE
      by_cases hv : i = v
      · subst hv
        exact List.getElem?_set_self (by rw [wipeE_len]; exact hl)
      · rw [List.getElem?_set_ne (Ne.symm hv)]
        exact ih ((List.mem_cons.mp h).resolve_left hv) hl
  apply List.ext_getElem?
  intro i
  by_cases hi : i ∈ vs
  · by_cases hn : i < en.length
    · rw [on hi hn, on hi (by rw [wipeE_len]; exact hn)]
    · rw [List.getElem?_eq_none (by rw [wipeE_len, wipeE_len]; omega), List.getElem?_eq_none (by rw [wipeE_len]; omega)]
  · rw [wipeE_off hi]
theorem lc_of {R : Given} {K : PySem.W.Frag} {vs ts : List Nat} {it : Lv} {s : Gv} {t : Tv} {f : Vv} (hts : ∀ i ∈ ts, i ∈ vs) {σ : St} {H : Hp} {Q : VK} (h : FE K (fLc vs it s t f) σ H Q) : tLc (FI R K it) (FG R K ts s) (FT K t) (FV K f) vs σ H Q := by
  obtain ⟨G, en, z, zb, en', S, e1, k⟩ := h
  obtain ⟨⟨ds, en1⟩, p1, e2⟩ := Option.bind_eq_some_iff.mp e1
  obtain ⟨⟨rs, en2⟩, p2, e3⟩ := Option.bind_eq_some_iff.mp e2
  obtain ⟨hz, e4⟩ := ite_some e3
  cases e4
  refine ⟨G, en, ds, en1, S, p1, fun J G1 H1 T1 hJ D hD => ?_⟩
  have S1 := T1.sr
  have nobD : ∀ {e : En} {σ' : St}, (∀ b, OwnA e σ' b → OwnA (wipeE en1 vs) (wipe σ vs) b) → ¬ OwnA e σ' D := fun {e σ'} hh q => by
    obtain ⟨o, ho, _⟩ := S1.there (own_wipe (hh D q))
    rw [hD] at ho
    cases ho
  -- the loop: what is made so far, and what is left
  refine ⟨fun i m H' => ∃ G' e' accV acc rest, StepG K (wipeE en1 vs) (wipe σ vs) G1 H1 e' (wipe σ vs) G' H' ∧ wipeE e' vs = e' ∧ G' D = none ∧ H' D = some (.lst accV) ∧ Reps K G' accV acc ∧ m = ds.length - i ∧ lcL vs s t f (ds.drop i) e' = some (rest, en2) ∧ rs = acc ++ rest, ⟨ds.length, G1, _, [], [], rs, ?_, wipeE_wipeE, S1.sub.free hD, upd_same, .nil, rfl, p2, rfl⟩, ?_⟩
  · have N := New.own (o := .lst []) S1.sub hD
    exact step_g (N.step S1.wipe)
  rintro i m H2 ⟨G2, e2, accV, acc, rest, T2, w2, gD, hD2, ra, rfl, pl, er⟩
  have nD2 := nobD T2.own
  have gg : Same G1 G2 := T2.ext.g
  obtain ⟨j1, j2⟩ := hJ i G2 H2 gg T2.sr.sub
  by_cases hi : i < ds.length
  · rw [List.drop_eq_getElem_cons hi] at pl
    obtain ⟨e3, q3, pl⟩ := Option.bind_eq_some_iff.mp pl
    obtain ⟨⟨c, e4⟩, q4, pl⟩ := Option.bind_eq_some_iff.mp pl
    rw [w2] at q3
    obtain ⟨j3, j4⟩ := j2 ds[i] (List.getElem?_eq_getElem hi)
    refine .inr ⟨j3, fun H' => ∃ G' e' accV acc rest, StepG K (wipeE en1 vs) (wipe σ vs) G1 H1 e' (wipe σ vs) G' H' ∧ wipeE e' vs = e' ∧ G' D = none ∧ H' D = some (.lst accV) ∧ Reps K G' accV acc ∧ lcL vs s t f (ds.drop (i + 1)) e' = some (rest, en2) ∧ rs = acc ++ rest,
      fun H' ⟨G', e', aV, a, r, h1, h2, h3, h4, h5, h6, h7⟩ => ⟨ds.length - (i + 1), by omega, G', e', aV, a, r, h1, h2, h3, h4, h5, rfl, h6, h7⟩, fun x H3 hy => ?_⟩
    obtain ⟨G3, N3, r3⟩ := j4 x H3 hy
    have T3 := T2.trans (step_g (N3.step T2.sr))
    have gD3 : G3 D = none := N3.ext.n D _ hD2 (fun z => z) gD
    have hD3 : H3 D = some (.lst accV) := N3.ext.h D _ hD2 fun z => z
    refine ⟨G3, e2, _, e3, T3.sr, r3, q3, fun σ4 G4 H4 T4 k4 => ?_⟩
    have hl4 : σ4.length = σ.length := k4.1.trans (wipe_length σ vs)
    have ww : wipe σ4 vs = wipe σ vs := wipe_wipe (K := K) hts hl4 k4.2
    refine ⟨ww, ?_⟩
    have T34 := T3.trans T4
    have nD4 := nobD T34.own
    have nD3 := nobD T3.own
    have gD4 : G4 D = none := T4.ext.n D _ hD3 nD3 gD3
    have hD4 : H4 D = some (.lst accV) := T4.ext.h D _ hD3 nD3
    refine ⟨G4, e3, c, e4, T4.sr, q4, fun G5 H5 T5 => ?_⟩
    have T35 := T34.trans (step_g T5)
    have nD5 := nobD T35.own
    have gD5 : G5 D = none := T5.ext.n D _ hD4 nD4 gD4
    have hD5 : H5 D = some (.lst accV) := T5.ext.h D _ hD4 nD4
    -- a turn's end, the block's own names forgotten
    have fin : ∀ {e6 : En} {G6 H6 : Hp}, StepG K (wipeE en1 vs) (wipe σ vs) G1 H1 e6 σ4 G6 H6 → StepG K (wipeE en1 vs) (wipe σ vs) G1 H1 (wipeE e6 vs) (wipe σ vs) G6 H6 := fun {e6 G6 H6} T => by
      have W := T.sr.wipe (vs := vs)
      rw [ww] at W
      refine ⟨T.ext, W, fun b q => ?_, fun i d q => ?_⟩
      · rw [← ww] at q
        exact T.own b (own_wipe q)
      · obtain ⟨⟨d', e'⟩, s'⟩ := T.lent i d q
        exact ⟨⟨d', by rw [wipeE_off (wipeE_at q).2]; exact e'⟩, rfl⟩
    cases c with
    | false =>
      refine iteF ⟨G5, wipeE e4 vs, accV, acc, rest, fin T35, wipeE_wipeE, gD5, hD5, ra.mono ((N3.ext.g.trans T4.ext.g).trans T5.ext.g), ?_, er⟩
      exact pl
    | true =>
      obtain ⟨⟨y, e6⟩, q6, pl⟩ := Option.bind_eq_some_iff.mp (show ((f e4).bind fun y => (lcL vs s t f (ds.drop (i + 1)) (wipeE y.2 vs)).map fun r => (y.1 :: r.1, r.2)) = some (rest, en2) from pl)
      obtain ⟨⟨rest', en3⟩, q7, pl⟩ := Option.map_eq_some_iff.mp pl
      cases pl
      refine iteT ⟨G5, e4, y, e6, T5.sr, q6, fun yv G6 H6 T6 ry => ?_⟩
      have T36 := T35.trans (step_g T6)
      have gD6 : G6 D = none := T6.ext.n D _ hD5 nD5 gD5
      have hD6 : H6 D = some (.lst accV) := T6.ext.h D _ hD5 nD5
      have ra6 := ra.mono (((N3.ext.g.trans T4.ext.g).trans T5.ext.g).trans T6.ext.g)
      have T7 := fin T36
      refine ⟨accV, hD6, ?_, G6, wipeE e6 vs, accV ++ [yv], acc ++ [y], rest', ⟨T7.ext.nobody hD, T7.sr.nobody hD6 gD6 (nobD T7.own), T7.own, T7.lent⟩, wipeE_wipeE, gD6, upd_same, ra6.append (.cons ry .nil), q7, by rw [er, List.append_assoc]; rfl⟩
      have h1 := ra.length
      rw [er, List.length_append, List.length_cons] at hz
      omega
  · rw [List.drop_eq_nil_of_le (by omega)] at pl
    cases pl
    refine .inl ⟨j1 (by omega), ?_⟩
    have B := T2.back S1
    have er2 : rs = acc := by rw [er, List.append_nil]
    refine k _ G2 H2 (T1.trans B) (Res.new (.inl (T1.ext.t D hD)) (fun q => ?_) hD2 gD (.lst (er2 ▸ ra)))
    obtain ⟨o, ho, _⟩ := S1.there (B.own D q)
    rw [hD] at ho
    cases ho
theorem fe_lc {R : Given} {elt tg iter : Expr} {ifs : List Expr} {scope : Scope} {own : List (Str × Nat)} {ts : List Nat} {it : Lv} {s : Gv} {t : Tv} {f : Vv} (hc : X.calm = true) (hN : X.N.Nodup) (hi : PI X tg iter (FI R X.K it)) (ok : BlkOk X.N X.env.scope scope own) (hts : ∀ i ∈ ts, i ∈ own.map (·.2))
    (hg : ∀ (s' : Shared) (H : Hp) (C : Addr) (cl : List (Str × Addr)) (fp : List Addr), PG (X.blk s' H scope (compEnvC scope cl C X.env) fp) tg (FG R X.K ts s))
    (ht : ∀ (s' : Shared) (H : Hp) (C : Addr) (cl : List (Str × Addr)) (fp : List Addr), PTs (X.blk s' H scope (compEnvC scope cl C X.env) fp) ifs (FT X.K t))
    (he : ∀ (s' : Shared) (H : Hp) (C : Addr) (cl : List (Str × Addr)) (fp : List Addr), PE (X.blk s' H scope (compEnvC scope cl C X.env) fp) elt (FV X.K f)) (hs : ∀ x, foldedSetIterable iter X.env x = pure x := by intro _; rfl) :
    PE X (.ListComp elt [⟨tg, iter, ifs, 0⟩] scope pos) (FE X.K (fLc (own.map (·.2)) it s t f)) := pe_imp (pe_lc hc hN hi ok hg ht he hs) fun _ _ _ h => lc_of hts h
theorem fs_setLc {R : Given} {i : Nat} {y : Str} {py spos : Pos} {elt tg iter : Expr} {ifs : List Expr} {scope : Scope} {own : List (Str × Nat)} {ts : List Nat} {it : Lv} {s : Gv} {t : Tv} {f : Vv} (hc : X.calm = true) (hN : X.N.Nodup) (hi : PI X tg iter (FI R X.K it)) (ok : BlkOk X.N X.env.scope scope own) (hts : ∀ i ∈ ts, i ∈ own.map (·.2))
    (hg : ∀ (s' : Shared) (H : Hp) (C : Addr) (cl : List (Str × Addr)) (fp : List Addr), PG (X.blk s' H scope (compEnvC scope cl C X.env) fp) tg (FG R X.K ts s))
    (ht : ∀ (s' : Shared) (H : Hp) (C : Addr) (cl : List (Str × Addr)) (fp : List Addr), PTs (X.blk s' H scope (compEnvC scope cl C X.env) fp) ifs (FT X.K t))
    (he : ∀ (s' : Shared) (H : Hp) (C : Addr) (cl : List (Str × Addr)) (fp : List Addr), PE (X.blk s' H scope (compEnvC scope cl C X.env) fp) elt (FV X.K f))
    (hy : X.N[i]? = some y := by rfl) (hyl : X.env.scope.names.lookup y = some .local := by rfl) (hsw : swapsWith (.ListComp elt [⟨tg, iter, ifs, 0⟩] scope pos) (some (.Name y py)) spos.line X.env = pure true := by exact sw_true rfl rfl rfl (by decide +kernel)) (hs : ∀ x, foldedSetIterable iter X.env x = pure x := by intro _; rfl) :
    PS X (.Assign [.Name y py] (.ListComp elt [⟨tg, iter, ifs, 0⟩] scope pos) spos) (FS X.K (sSet i (fLc (own.map (·.2)) it s t f))) := ps_imp (ps_setLc hc hN hy hyl hsw hi ok hg ht he hs) fun D σ H ⟨G, en, o, en', S, e1, k⟩ => by
  obtain ⟨⟨d, b, en1⟩, p1, e2⟩ := Option.bind_eq_some_iff.mp e1
  obtain ⟨hl, e3⟩ := ite_some e2
  cases e3
  exact lc_of hts ⟨G, en, d, b, en1, S, p1, fun v G1 H1 T r => k G1 H1 _ (T.s.store hl r)⟩
end
end Fx
/-! Fx6: walked values and ranges; operators on data. -/
namespace Fx
open PySem PySem.Spec L2
/-! ### what a for walks -/
def charsD (z : Str) : List D := z.cps.toList.map fun c => .str ⟨#[c]⟩
def seqD : D → Option (List D)
  | .list ds => some ds
  | .tuple ds => some ds
  | .str z => some (charsD z)
  | _ => none
def itV (f : Vv) : Lv := fun en => (f en).bind fun x => (seqD x.1).map fun ds => (ds, x.2)
section
variable {X : Cx} {tg e : Expr} {pos p : Pos} {K : PySem.W.Frag}
theorem jok_list {a : Addr} {xs : List V} {ds : List D} {G0 : Hp} (h : SqL K G0 a xs) (r : Reps K G0 xs ds) : JOk Rep K (Itl K a) G0 ds := fun i G H s1 s2 => by
  have hq := (s1.trans s2).seq h
  have hl := r.length
  refine ⟨fun hi => ⟨xs, hq, by omega⟩, fun d hd => ?_⟩
  obtain ⟨v, h1, h2⟩ := r.get' hd
  refine ⟨⟨xs, v, hq, h1⟩, fun x H' ⟨e, k⟩ => ?_⟩
  subst e
  have := k xs hq
  rw [h1] at this
  cases this
  exact ⟨G, New.refl s2, h2.mono s1⟩
theorem jok_tup {a : Addr} {xs : List V} {ds : List D} {G0 : Hp} (h : TupG K G0 a xs) (r : Reps K G0 xs ds) : JOk Rep K (Itt K a) G0 ds := fun i G H s1 s2 => by
  have hq := seqT (s1.trans s2) h.sq
  have hl := r.length
  refine ⟨fun hi => ⟨xs, hq, by omega⟩, fun d hd => ?_⟩
  obtain ⟨v, h1, h2⟩ := r.get' hd
  refine ⟨⟨xs, v, hq, h1⟩, fun x H' ⟨e, k⟩ => ?_⟩
  subst e
  have := k xs hq
  rw [h1] at this
  cases this
  exact ⟨G, New.refl s2, h2.mono s1⟩
theorem jok_str {z : Str} {G0 : Hp} : JOk Rep K (Its z) G0 (charsD z) := fun i G H s1 s2 => by
  refine ⟨fun hi => ?_, fun d hd => ?_⟩
  · have : (charsD z).length = z.cps.size := by simp [charsD]
    show z.cps.size ≤ i
    omega
  · unfold charsD at hd
    rw [List.getElem?_map] at hd
    obtain ⟨c, h1, h2⟩ := Option.map_eq_some_iff.mp hd
    have h3 : z.cps[i]? = some c := by simpa using h1
    refine ⟨(Array.getElem?_eq_some_iff.mp h3).1, fun x H' ⟨e, c', k1, k2⟩ => ?_⟩
    subst e k2
    rw [h3] at k1
    cases k1
    exact ⟨G, New.refl s2, by rw [← h2]; exact .str _⟩
theorem fi_val {f : Vv} (he : PE X e (FV X.K f)) : PI X tg e (FI Rep X.K (itV f)) := by
  refine ⟨fun pins s σ H R I ⟨G, en, ds, en', S, e1, k⟩ => ?_⟩
  obtain ⟨⟨d, en1⟩, p1, e2⟩ := Option.bind_eq_some_iff.mp e1
  obtain ⟨ds', q1, q2⟩ := Option.map_eq_some_iff.mp e2
  cases q2
  refine thn (he.run pins s σ H (fun v H1 => ∃ G1, Step X.K en en1 σ G H G1 H1 ∧ Rep X.K G1 v d) I ⟨G, en, d, en1, S, p1, fun v G1 H1 T r => ⟨G1, T, r⟩⟩) fun u s1 ⟨v, H1, I1, rv, G1, T, r⟩ => ?_
  cases r with
  | tup h rr =>
    cases q1
    cases rv
    obtain ⟨its, ri, ht, hz⟩ := I1.tuple (seqT T.sr.sub h.sq)
    refine wpAny_pyIter_tuple (items := its.toArray) ht ?_
    exact pi_one (tk := s1.toks) I1 _ (turn_tuple _ _) ⟨_, Heap.get?_push_size _ rfl, rfl, rfl⟩ (k _ _ _ T (jok_tup h rr))
  | lst h rr =>
    cases q1
    cases rv
    obtain ⟨its, ri, ht, hz⟩ := I1.list (T.sr.sub.seq h)
    refine wpAny_pyIter_list ht.isList ?_
    exact pi_one (tk := s1.toks) I1 _ (turn_list _ _) ⟨_, Heap.get?_push_size _ rfl, rfl, rfl⟩ (k _ _ _ T (jok_list h rr))
  | str z =>
    cases q1
    obtain ⟨t, rfl⟩ := rv
    cases ha : z.cps.all (· < 128) with
    | true => exact wpAny_pyIter_ascii ha (pi_one (tk := s1.toks) I1 _ (turn_str _ z t "str_ascii_iterator" (.inl rfl)) ⟨_, Heap.get?_push_size _ rfl, rfl, rfl⟩ (k _ _ _ T jok_str))
    | false => exact wpAny_pyIter_wide ha (pi_one (tk := s1.toks) I1 _ (turn_str _ z t "str_iterator" (.inr rfl)) ⟨_, Heap.get?_push_size _ rfl, rfl, rfl⟩ (k _ _ _ T jok_str))
  | dct h rr => cases q1
  | non => cases q1
  | bl b => cases q1
  | int i => cases q1
/-- lo, lo + 1, .. -/
def rngD (lo c : Int) (n : Nat) : List D := (List.range n).map fun (i : Nat) => .int (lo + (i : Int) * c)
theorem jok_rng {lo c : Int} {n : Nat} {G0 : Hp} : JOk Rep K (Itc lo c n) G0 (rngD lo c n) := fun i G H s1 s2 => by
  have hl : (rngD lo c n).length = n := by simp [rngD]
  refine ⟨fun hi => by rw [hl] at hi; exact hi, fun d hd => ?_⟩
  unfold rngD at hd
  rw [List.getElem?_map] at hd
  obtain ⟨j, h1, h2⟩ := Option.map_eq_some_iff.mp hd
  obtain ⟨h3, h4⟩ := List.getElem?_eq_some_iff.mp h1
  rw [List.length_range] at h3
  rw [List.getElem_range] at h4
  subst h4 h2
  refine ⟨h3, fun x H' ⟨e, k⟩ => ?_⟩
  subst e k
  exact ⟨G, New.refl s2, .int _⟩
theorem jok_rng1 {lo : Int} {n : Nat} {G0 : Hp} : JOk Rep K (Itr lo n) G0 (rngD lo 1 n) := fun i G H s1 s2 => by
  obtain ⟨h1, h2⟩ := jok_rng (K := K) (lo := lo) (c := 1) (n := n) (G0 := G0) i G H s1 s2
  refine ⟨h1, fun d hd => ?_⟩
  obtain ⟨h3, h4⟩ := h2 d hd
  refine ⟨h3, fun x H' ⟨e, k⟩ => h4 x H' ⟨e, ?_⟩⟩
  rw [k, Int.mul_one]
def inLine (i : Int) : Bool := decide (-(2 ^ 62) ≤ i) && decide (i < 2 ^ 62)
theorem inLine_of {i : Int} (h : inLine i = true) : -(2 ^ 62) ≤ i ∧ i < 2 ^ 62 := by
  simpa [inLine] using h
def range1D : List D → Option (List D)
  | [.int j] => if inLine j = true then some (rngD 0 1 j.toNat) else none
  | _ => none
def range2D : List D → Option (List D)
  | [.int i, .int j] => if (inLine i && inLine j) = true then some (rngD i 1 (j - i).toNat) else none
  | _ => none
/-- downwards by ones -/
def range3D : List D → Option (List D)
  | [.int i, .int j, .int c] => if (inLine i && inLine j && decide (c = -1)) = true then some (rngD i (-1) (i - j).toNat) else none
  | _ => none
def itR (a : Av) (g : List D → Option (List D)) : Lv := fun en => (a en).bind fun x => (lates x.2 x.1).bind fun ds => (g ds).map fun r => (r, x.2)
theorem itR_of {a : Av} {g : List D → Option (List D)} {σ : St} {H : Hp} {R : It → Hp → Prop} (h : FI Rep K (itR a g) σ H R) : FA K a σ H fun vs H1 => ∃ G ds rs, Uses K G H1 vs ds ∧ g ds = some rs ∧ ∀ J, (∀ G0, JOk Rep K J G0 rs) → R J H1 := by
  obtain ⟨G, en, rs, en', S, e1, k⟩ := h
  obtain ⟨⟨hs, en1⟩, p1, e2⟩ := Option.bind_eq_some_iff.mp e1
  obtain ⟨ds, p2, e3⟩ := Option.bind_eq_some_iff.mp e2
  obtain ⟨rs', p3, e4⟩ := Option.map_eq_some_iff.mp e3
  cases e4
  exact ⟨G, en, hs, en1, S, p1, fun vs G1 H1 T r => ⟨G1, ds, rs, r.uses T.sr p2, p3, fun J hJ => k J G1 H1 T (hJ G1)⟩⟩
theorem fa_mono {a : Av} {σ : St} {H : Hp} {Q Q' : List V → Hp → Prop} (h : FA K a σ H Q) (k : ∀ vs H, Q vs H → Q' vs H) : FA K a σ H Q' :=
  let ⟨G, en, hs, en', S, e1, q⟩ := h
  ⟨G, en, hs, en', S, e1, fun vs G' H' T r => k vs H' (q vs G' H' T r)⟩
theorem fi_range1 {a : Expr} {l : Av} (hm : X.mg "range" = none) (ha : PA X [a] (FA X.K l)) (hg : Gl X "range" := by rfl) (hs : starEach [a] X.env = [(false, eval a X.env)] := by rfl) : PI X tg (.Call (.Name "range" p) [a] [] pos) (FI Rep X.K (itR l range1D)) :=
  pi_imp (pi_range1 hg hm ha hs) fun σ H R h => fa_mono (itR_of h) fun vs H1 ⟨G, ds, rs, u, e2, k2⟩ => by
    unfold range1D at e2
    split at e2
    · rename_i j
      obtain ⟨hl, e3⟩ := ite_some e2
      cases e3
      obtain ⟨v, rfl, u1⟩ := u.one
      obtain ⟨q1, q2⟩ := inLine_of hl
      exact ⟨j, by rw [u1.int], q1, q2, k2 _ fun _ => jok_rng1⟩
    · cases e2
theorem fi_range2 {a b : Expr} {l : Av} (hm : X.mg "range" = none) (ha : PA X [a, b] (FA X.K l)) (hg : Gl X "range" := by rfl) (hs : starEach [a, b] X.env = [(false, eval a X.env), (false, eval b X.env)] := by rfl) (hs2 : starEach [b] X.env = [(false, eval b X.env)] := by rfl) : PI X tg (.Call (.Name "range" p) [a, b] [] pos) (FI Rep X.K (itR l range2D)) :=
  pi_imp (pi_range2 hg hm ha hs hs2) fun σ H R h => fa_mono (itR_of h) fun vs H1 ⟨G, ds, rs, u, e2, k2⟩ => by
    unfold range2D at e2
    split at e2
    · rename_i i j
      obtain ⟨hl, e3⟩ := ite_some e2
      cases e3
      obtain ⟨v, w, rfl, u1, u2⟩ := u.two
      obtain ⟨h1, h2⟩ := Bool.and_eq_true_iff.mp hl
      obtain ⟨q1, q2⟩ := inLine_of h1
      obtain ⟨q3, q4⟩ := inLine_of h2
      exact ⟨i, j, by rw [u1.int, u2.int], ⟨q1, q2, q3, q4⟩, k2 _ fun _ => jok_rng1⟩
    · cases e2
theorem Uses.three {G H : Hp} {vs : List V} {a b c : D} (u : Uses K G H vs [a, b, c]) : ∃ v w z, vs = [v, w, z] ∧ Use K G H v a ∧ Use K G H w b ∧ Use K G H z c := by
  cases u with
  | cons h r => obtain ⟨w, z, rfl, h2, h3⟩ := r.two; exact ⟨_, _, _, rfl, h, h2, h3⟩
theorem fi_range3 {a b c : Expr} {l : Av} (hm : X.mg "range" = none) (ha : PA X [a, b, c] (FA X.K l)) (hg : Gl X "range" := by rfl) (hs : starEach [a, b, c] X.env = (false, eval a X.env) :: starEach [b, c] X.env := by rfl) (hpl : (backTo pos (starEach [b, c] X.env)).any (·.1) = false := by rfl) : PI X tg (.Call (.Name "range" p) [a, b, c] [] pos) (FI Rep X.K (itR l range3D)) :=
  pi_imp (pi_range3 hg hm ha hs hpl) fun σ H R h => fa_mono (itR_of h) fun vs H1 ⟨G, ds, rs, u, e2, k2⟩ => by
    unfold range3D at e2
    split at e2
    · rename_i i j c
      obtain ⟨hl, e3⟩ := ite_some e2
      cases e3
      obtain ⟨v, w, z, rfl, u1, u2, u3⟩ := u.three
      obtain ⟨h12, h3⟩ := Bool.and_eq_true_iff.mp hl
      obtain ⟨h1, h2⟩ := Bool.and_eq_true_iff.mp h12
      obtain ⟨q1, q2⟩ := inLine_of h1
      obtain ⟨q3, q4⟩ := inLine_of h2
      have hc : c = -1 := of_decide_eq_true h3
      exact ⟨i, j, -1, (i - j).toNat, by rw [u1.int, u2.int, u3.int, hc], RgC.neg q1 q2 q3 q4, k2 _ fun _ => jok_rng⟩
    · cases e2
end

/-! ### operators: numbers -/
section
variable {K : PySem.W.Frag}
def isI (g : Int → Int → Option D) : D → D → Option (D × Bool)
  | .int i, .int j => (g i j).map fun z => (z, false)
  | _, _ => none
theorem op2_int {r : R2} {g : Int → Int → Option D} (h : ∀ i j z (H : Hp) Q, g i j = some z → (∀ v, (∀ G, Rep K G v z) → Q v H) → r (.int i) (.int j) H Q) : Op2 K r (isI g) := by
  intro x y d e z b G H Q s u1 u2 hg k
  unfold isI at hg
  split at hg
  · rename_i i j
    obtain ⟨z', q1, q2⟩ := Option.map_eq_some_iff.mp hg
    cases q2
    rw [u1.int, u2.int]
    exact h i j z H Q q1 fun v hv => k v G H (New.refl s) (Fresh.sh (hv G))
  · cases hg
def iAdd : Int → Int → Option D := fun i j => some (.int (i + j))
def iSub : Int → Int → Option D := fun i j => some (.int (i - j))
def iMul : Int → Int → Option D := fun i j => if i.natAbs < 18446744073709551616 ∨ j.natAbs < 18446744073709551616 then some (.int (i * j)) else none
def iDiv : Int → Int → Option D := fun i j => if 0 < j ∧ j < 1073741824 then some (.int (i / j)) else none
def iMod : Int → Int → Option D := fun i j => if 0 < j then some (.int (i % j)) else none
def iPow : Int → Int → Option D := fun i j => if 0 ≤ j ∧ j ≤ 1000000 ∧ i.natAbs < 18446744073709551616 then some (.int (i ^ j.toNat)) else none
def iShl : Int → Int → Option D := fun i j => if 0 ≤ j ∧ j ≤ 1000000 ∧ i.natAbs < 18446744073709551616 then some (.int (i * 2 ^ j.toNat)) else none
def iLt : Int → Int → Option D := fun i j => some (.bool (decide (i < j)))
def iLe : Int → Int → Option D := fun i j => some (.bool (decide (i ≤ j)))
def iGt : Int → Int → Option D := fun i j => some (.bool (decide (j < i)))
def iGe : Int → Int → Option D := fun i j => some (.bool (decide (j ≤ i)))
theorem two64 {i : Int} (h : i.natAbs < 18446744073709551616) : -(2 ^ 64) < i ∧ i < 2 ^ 64 := by
  constructor <;> omega
theorem o2_sub : Op2 K (rI0 fun i j => .int (i - j)) (isI iSub) := op2_int fun i j z H Q e k => ⟨i, j, rfl, rfl, k _ (by cases e; exact fun _ => .int _)⟩
theorem o2_mulI : Op2 K (rI CMul fun i j => .int (i * j)) (isI iMul) := op2_int fun i j z H Q e k => by
  obtain ⟨h, e⟩ := ite_some e
  exact ⟨i, j, rfl, rfl, h.elim (fun h => .inl (two64 h)) (fun h => .inr (two64 h)), k _ (by cases e; exact fun _ => .int _)⟩
theorem o2_div : Op2 K (rI CDiv fun i j => .int (i / j)) (isI iDiv) := op2_int fun i j z H Q e k => by
  obtain ⟨h, e⟩ := ite_some e
  exact ⟨i, j, rfl, rfl, h, k _ (by cases e; exact fun _ => .int _)⟩
theorem o2_mod : Op2 K (rI (fun _ j => 0 < j) fun i j => .int (i % j)) (isI iMod) := op2_int fun i j z H Q e k => by
  obtain ⟨h, e⟩ := ite_some e
  exact ⟨i, j, rfl, rfl, h, k _ (by cases e; exact fun _ => .int _)⟩
theorem o2_pow : Op2 K (rI CPow fun i j => .int (i ^ j.toNat)) (isI iPow) := op2_int fun i j z H Q e k => by
  obtain ⟨h, e⟩ := ite_some e
  exact ⟨i, j, rfl, rfl, h, k _ (by cases e; exact fun _ => .int _)⟩
theorem o2_shl : Op2 K (rI CPow fun i j => .int (i * 2 ^ j.toNat)) (isI iShl) := op2_int fun i j z H Q e k => by
  obtain ⟨h, e⟩ := ite_some e
  exact ⟨i, j, rfl, rfl, h, k _ (by cases e; exact fun _ => .int _)⟩
theorem o2_ltI : Op2 K (rI0 fun i j => .bl (decide (i < j))) (isI iLt) := op2_int fun i j z H Q e k => ⟨i, j, rfl, rfl, k _ (by cases e; exact fun _ => .bl _)⟩
theorem o2_leI : Op2 K (rI0 fun i j => .bl (decide (i ≤ j))) (isI iLe) := op2_int fun i j z H Q e k => ⟨i, j, rfl, rfl, k _ (by cases e; exact fun _ => .bl _)⟩
theorem o2_gtI : Op2 K (rI0 fun i j => .bl (decide (j < i))) (isI iGt) := op2_int fun i j z H Q e k => ⟨i, j, rfl, rfl, k _ (by cases e; exact fun _ => .bl _)⟩
theorem o2_geI : Op2 K (rI0 fun i j => .bl (decide (j ≤ i))) (isI iGe) := op2_int fun i j z H Q e k => ⟨i, j, rfl, rfl, k _ (by cases e; exact fun _ => .bl _)⟩
def dNeg : D → Option (D × Bool)
  | .int i => some (.int (-i), false)
  | _ => none
theorem o1_neg : Op1 K (rU fun i => .int (-i)) dNeg := fun x d z b G H Q s u hg k => by
  unfold dNeg at hg
  split at hg
  · cases hg
    exact ⟨_, u.int, k _ G H (New.refl s) (Fresh.sh (.int _))⟩
  · cases hg

/-! ### +: numbers, lists, tuples, texts -/
/-- two lists of any standing -/
def rCatL (K : PySem.W.Frag) : R2 := fun x y H Q => ∃ l b xs zs, x = .ref l ∧ y = .ref b ∧ SqL K H l xs ∧ SqL K H b zs ∧ xs.length + zs.length ≤ sizeLine ∧ ∀ p, H p = none → Q (.ref p) (upd H p (.lst (xs ++ zs)))
theorem op_catL {X : Cx} : OpR X (binaryOp .Add) (rCatL X.K) := by
  intro pins s σ H x y v u Q I rx ry h
  obtain ⟨l, b, xs, zs, rfl, rfl, hL, hB, hz, q⟩ := h
  cases rx
  cases ry
  obtain ⟨its, r, ⟨⟨c1, d1, t1, s1⟩, n1, e1, f1, f2, f3⟩, z1⟩ := I.list hL
  obtain ⟨its2, r2, ⟨⟨c2, d2, t2, s2⟩, n2, e2, f4, f5, f6⟩, z2⟩ := I.list hB
  simp only at f1 f2 f3 f4 f5 f6
  subst f1 f2 f3 f4 f5 f6
  have hl1 := r.length
  have hl2 := r2.length
  refine concat_meets (s := s) ⟨_, e1, rfl⟩ ⟨_, e2, rfl⟩ PySem.noFill_list_add PySem.seq_list_add PySem.F.slot_list_add PySem.F.entry_list_add (PySem.F.args_list_add_2 _ _)
    (PyProof.Rows.list_addW l b its.toArray its2.toArray n1 n2 none none s1 s2 (by rw [List.size_toArray, List.size_toArray]; omega)) ⟨e1, e2, ?_⟩
  rw [List.append_toArray]
  exact ⟨.ref _, _, I.lnew (t' := s.toks) (r.append r2) (by rw [List.length_append]; omega), rfl, q _ I.fresh⟩
def dAdd : D → D → Option (D × Bool)
  | .int i, .int j => some (.int (i + j), false)
  | .list a, .list b => if a.length + b.length ≤ sizeLine then some (.list (a ++ b), true) else none
  | .tuple a, .tuple b => if a.length + b.length ≤ sizeLine then some (.tuple (a ++ b), false) else none
  | .str a, .str b => if a.length + b.length ≤ sizeLine then some (.str (a ++ b), false) else none
  | _, _ => none
/-- two tuples; what is new stands exact -/
def rCatZ (K : PySem.W.Frag) : R2 := fun x y H Q => ∃ a b xs ys, x = .ref a ∧ y = .ref b ∧ SqT K H a xs ∧ SqT K H b ys ∧ xs.length + ys.length ≤ sizeLine ∧
  (xs = [] → Q (.ref b) H) ∧ (xs ≠ [] → ys = [] → Q (.ref a) H) ∧ (xs ≠ [] → ys ≠ [] → ∀ p o, H p = none → o.dict = none → Q (.ref p) (upd H p (.frz o (.tup (xs ++ ys)))))
theorem op_catZ {X : Cx} : OpR X (binaryOp .Add) (rCatZ X.K) := by
  intro pins s σ H x y v u Q I rx ry h
  obtain ⟨a, b, xs, ys, rfl, rfl, ha, hb, hz, q0, q1, q2⟩ := h
  cases rx
  cases ry
  obtain ⟨its, r1, p1, z1⟩ := I.tuple ha
  obtain ⟨its2, r2, p2, z2⟩ := I.tuple hb
  have l1 := r1.length
  have l2 := r2.length
  by_cases hx : its = []
  · subst hx
    cases r1
    exact cat_tup0 p1 p2 ⟨.ref b, H, I, rfl, q0 rfl⟩
  · have hx' : xs ≠ [] := fun e => hx (by rw [e] at r1; cases r1; rfl)
    refine HT.cat_tup p1 p2 hx (fun e => ⟨.ref a, H, I, rfl, q1 hx' (by rw [e] at r2; cases r2; rfl)⟩) (fun e => ?_) (by omega)
    have hy' : ys ≠ [] := fun e' => e (by rw [e'] at r2; cases r2; rfl)
    exact ⟨.ref _, _, inv_tupZ I (r1.append r2) (by rw [List.length_append]; exact hz), rfl, q2 hx' hy' _ _ (I.hok.fresh (Nat.le_refl _)) rfl⟩
abbrev rAdd (K : PySem.W.Frag) : R2 := fun x y H Q => ((rI0 fun i j => .int (i + j)) x y H Q ∨ rCatL K x y H Q) ∨ (rCatZ K x y H Q ∨ ∃ i j, x = .str i ∧ y = .str j ∧ i.length + j.length ≤ sizeLine ∧ Q (.str (i ++ j)) H)
theorem op_addD {X : Cx} : OpR X (binaryOp .Add) (rAdd X.K) := (op_add.or op_catL).or (op_catZ.or op_add_str)
theorem o2_add : Op2 K (rAdd K) dAdd := fun x y d e z b G H Q s u1 u2 hg k => by
  unfold dAdd at hg
  split at hg
  · cases hg
    exact .inl (.inl ⟨_, _, u1.int, u2.int, k _ G H (New.refl s) (Fresh.sh (.int _))⟩)
  · obtain ⟨hl, e⟩ := ite_some hg
    cases e
    obtain ⟨a, xs, rfl, h1, r1⟩ := u1.list s
    obtain ⟨c, ys, rfl, h2, r2⟩ := u2.list s
    exact .inl (.inr ⟨a, c, xs, ys, rfl, rfl, h1, h2, by rw [r1.length, r2.length]; exact hl, fun p hp => k _ _ _ (New.own s hp) (Fresh.new s hp (.lst (r1.append r2)))⟩)
  · obtain ⟨hl, e⟩ := ite_some hg
    cases e
    obtain ⟨a, xs, rfl, h1, r1⟩ := u1.tupG
    obtain ⟨c, ys, rfl, h2, r2⟩ := u2.tupG
    refine .inr (.inl ⟨a, c, xs, ys, rfl, rfl, seqT s h1.sq, seqT s h2.sq, by rw [r1.length, r2.length]; exact hl, fun e => ?_, fun _ e => ?_, fun _ _ p o hp ho => ?_⟩)
    · subst e
      cases r1
      exact k _ G H (New.refl s) (Fresh.sh (.tup h2 r2))
    · subst e
      cases r2
      rw [List.append_nil] at k
      exact k _ G H (New.refl s) (Fresh.sh (.tup h1 r1))
    · have N := New.shd (o := .frz o (.tup (xs ++ ys))) s hp
      exact k _ _ _ N (Fresh.sh (.tup (.inl ⟨o, upd_same, ho⟩) ((r1.append r2).mono N.ext.g)))
  · obtain ⟨hl, e⟩ := ite_some hg
    cases e
    exact .inr (.inr ⟨_, _, u1.str, u2.str, hl, k _ G H (New.refl s) (Fresh.sh (.str _))⟩)
  · cases hg

/-! ### x[i], x[i:j] -/
def dIx : D → D → Option (D × Bool)
  | .list ds, .int i => (atI ds i).map fun z => (z, false)
  | .tuple ds, .int i => (atI ds i).map fun z => (z, false)
  | .str z, .int i => if z.length ≤ sizeLine then (atI z.cps.toList i).map fun c => (.str ⟨#[c]⟩, false) else none
  | _, _ => none
theorem atI_reps {G : Hp} {xs : List V} {ds : List D} {i : Int} {d : D} (r : Reps K G xs ds) (h : atI ds i = some d) : ∃ v, atI xs i = some v ∧ Rep K G v d := by
  unfold atI at h ⊢
  obtain ⟨j, h1, h2⟩ := Option.bind_eq_some_iff.mp h
  obtain ⟨v, h3, h4⟩ := r.get' h2
  exact ⟨v, by rw [r.length, h1]; exact h3, h4⟩
theorem o2_ix : Op2 K (rIx K) dIx := fun x y d e z b G H Q s u1 u2 hg k => by
  unfold dIx at hg
  split at hg
  · obtain ⟨z', h1, h2⟩ := Option.map_eq_some_iff.mp hg
    cases h2
    obtain ⟨a, xs, rfl, h3, r⟩ := u1.list s
    obtain ⟨v, h4, h5⟩ := atI_reps r h1
    exact .inl ⟨a, xs, _, v, rfl, u2.int, h3, h4, k v G H (New.refl s) (Fresh.sh h5)⟩
  · obtain ⟨z', h1, h2⟩ := Option.map_eq_some_iff.mp hg
    cases h2
    obtain ⟨a, xs, rfl, h3, r⟩ := u1.tuple s
    obtain ⟨v, h4, h5⟩ := atI_reps r h1
    exact .inr (.inl ⟨a, xs, _, v, rfl, u2.int, h3, h4, k v G H (New.refl s) (Fresh.sh h5)⟩)
  · obtain ⟨hl, hg⟩ := ite_some hg
    obtain ⟨c, h1, h2⟩ := Option.map_eq_some_iff.mp hg
    cases h2
    exact .inr (.inr ⟨_, _, c, u1.str, u2.int, hl, h1, k _ G H (New.refl s) (Fresh.sh (.str _))⟩)
  · cases hg
def cutD {α : Type} (xs : List α) (lo hi : Option Int) : List α := (xs.drop (HT.sIx xs.length 0 lo)).take (HT.sIx xs.length xs.length hi - HT.sIx xs.length 0 lo)
theorem cut_reps {G : Hp} {xs : List V} {ds : List D} {lo hi : Option Int} (r : Reps K G xs ds) : Reps K G (cutV xs lo hi) (cutD ds lo hi) := by
  unfold cutV cutD
  rw [r.length]
  exact (r.drop _).take _
def dSl : D → Option Int → Option Int → Option (D × Bool)
  | .list ds, l, h => some (.list (cutD ds l h), true)
  | .tuple ds, l, h => some (.tuple (cutD ds l h), false)
  | _, _, _ => none
def rSlZ (K : PySem.W.Frag) : V → Option Int → Option Int → Hp → VK → Prop := fun x lo hi H Q => ∃ a xs, x = .ref a ∧ SqT K H a xs ∧
  (HT.sIx xs.length 0 lo = 0 ∧ HT.sIx xs.length xs.length hi = xs.length → Q (.ref a) H) ∧ (¬ (HT.sIx xs.length 0 lo = 0 ∧ HT.sIx xs.length xs.length hi = xs.length) → ∀ p o, H p = none → o.dict = none → Q (.ref p) (upd H p (.frz o (.tup (cutV xs lo hi)))))
theorem sl_Z {X : Cx} : SlR X (rSlZ X.K) := by
  intro pins s σ H x v vl vu lo hi sl Q I rx hs pl pu h
  obtain ⟨a, xs, rfl, hx, q1, q2⟩ := h
  cases rx
  obtain ⟨its, r, ht, hz⟩ := I.tuple hx
  have hlen : its.toArray.size = xs.length := by rw [List.size_toArray]; exact r.length.symm
  refine ⟨"tuple", _, PyProof.Rows.slot_tuple_getitem.lookup, ht.typeIs, ?_⟩
  by_cases hw : HT.sIx xs.length 0 lo = 0 ∧ HT.sIx xs.length xs.length hi = xs.length
  · exact getItem_tuple_whole ht hs pl pu (by rw [hlen]; exact hw) ⟨.ref a, H, I, rfl, q1 hw⟩
  · refine HT.getItem_tuple_cut ht hs pl pu (by rw [hlen]; exact hw) ?_ (by rw [hlen]; exact hz)
    have e : xs.length = its.length := r.length
    have rr : Vals (cutV xs lo hi) ((its.toArray.toList.drop (HT.sIx its.toArray.size 0 lo)).take (HT.sIx its.toArray.size its.toArray.size hi - HT.sIx its.toArray.size 0 lo)) := by
      rw [hlen]
      unfold cutV
      exact (Vals.drop _ (by simpa using r)).take _
    exact ⟨.ref _, _, inv_tupZ I rr (Nat.le_trans (cutV_length xs lo hi) hz), rfl, q2 hw _ _ (I.hok.fresh (Nat.le_refl _)) rfl⟩
abbrev rSlD (K : PySem.W.Frag) : V → Option Int → Option Int → Hp → VK → Prop := fun x lo hi H Q => rSlL K x lo hi H Q ∨ rSlZ K x lo hi H Q
theorem sl_D {X : Cx} : SlR X (rSlD X.K) := sl_list.or sl_Z
theorem os_sl : OpS K (rSlD K) dSl := fun x d l h z b G H Q s u hg k => by
  unfold dSl at hg
  split at hg
  · cases hg
    obtain ⟨a, xs, rfl, h1, r⟩ := u.list s
    exact .inl ⟨a, xs, rfl, h1, fun p hp => k _ _ _ (New.own s hp) (Fresh.new s hp (.lst (cut_reps r)))⟩
  · cases hg
    rename_i ds
    obtain ⟨a, xs, rfl, h1, r⟩ := u.tupG
    refine .inr ⟨a, xs, rfl, seqT s h1.sq, fun hh => ?_, fun _ p o hp ho => ?_⟩
    · have e : cutD ds l h = ds := by
        unfold cutD
        rw [r.length] at hh
        rw [hh.1, hh.2, List.drop_zero, Nat.sub_zero, List.take_length]
      rw [e] at k
      exact k _ G H (New.refl s) (Fresh.sh (.tup h1 r))
    · have N := New.shd (o := .frz o (.tup (cutV xs l h))) s hp
      exact k _ _ _ N (Fresh.sh (.tup (.inl ⟨o, upd_same, ho⟩) ((cut_reps r).mono N.ext.g)))
  · cases hg

/-! ### ==, in -/
mutual
theorem Rep.dp {H : Hp} : ∀ {v : V} {d : D}, Rep K H v d → d.canLay0 = true → Dp K H v d
  | _, _, .non, _ => .non
  | _, _, .bl b, _ => .bl b
  | _, _, .int i, _ => .int i
  | _, _, .str x, _ => .str x
  | _, _, .tup h r, c => .tup h.sq (Reps.dp r (by rw [PyData.canLay0] at c; exact c))
  | _, _, .lst h r, c => .lst h (Reps.dp r (by rw [PyData.canLay0] at c; exact c))
  | _, _, .dct _ _, c => by rw [PyData.canLay0] at c; cases c
theorem Reps.dp {H : Hp} : ∀ {v : List V} {d : List D}, Reps K H v d → PyData.canLayAll0 d = true → DpAll K H v d
  | _, _, .nil, _ => .nil
  | _, _, .cons h r, c => by
    rw [PyData.canLayAll0, Bool.and_eq_true_iff] at c
    exact .cons (Rep.dp h c.1) (Reps.dp r c.2)
end
theorem Use.dp {G H : Hp} {v : V} {d : D} (s : Same G H) (u : Use K G H v d) (c : d.canLay0 = true) : Dp K H v d := by
  rcases u with u | ⟨a, o, rfl, h, r⟩
  · exact (u.mono s).dp c
  · cases r with
    | lst r => exact .lst (.inl (.inl h)) ((r.mono s).dp (by rw [PyData.canLay0] at c; exact c))
    | dK r => rw [PyData.canLay0] at c; cases c
def dEq (d e : D) : Option (D × Bool) := if (SeqAt.shaped d && SeqAt.shaped e) = true then some (.bool (PyData.eqv d e), false) else none
def dNe (d e : D) : Option (D × Bool) := if (SeqAt.shaped d && SeqAt.shaped e) = true then some (.bool (!PyData.eqv d e), false) else none
theorem o2_eq : Op2 K (rEqD K) dEq := fun x y d e z b G H Q s u1 u2 hg k => by
  obtain ⟨hl, e1⟩ := ite_some hg
  cases e1
  obtain ⟨h1, h2⟩ := Bool.and_eq_true_iff.mp hl
  exact ⟨d, e, u1.dp s (SeqAt.canLay_of_shaped h1), u2.dp s (SeqAt.canLay_of_shaped h2), h1, h2, k _ G H (New.refl s) (Fresh.sh (.bl _))⟩
theorem o2_ne : Op2 K (rNeD K) dNe := fun x y d e z b G H Q s u1 u2 hg k => by
  obtain ⟨hl, e1⟩ := ite_some hg
  cases e1
  obtain ⟨h1, h2⟩ := Bool.and_eq_true_iff.mp hl
  exact ⟨d, e, u1.dp s (SeqAt.canLay_of_shaped h1), u2.dp s (SeqAt.canLay_of_shaped h2), h1, h2, k _ G H (New.refl s) (Fresh.sh (.bl _))⟩
/-- is there, by data: a list, a tuple, a text's part -/
def rInT (K : PySem.W.Frag) (neg : Bool) : R2 := fun x y H Q => ∃ d ds, Dp K H x d ∧ Dp K H y (.tuple ds) ∧ SeqAt.shaped d = true ∧ SeqAt.shaped (.tuple ds) = true ∧ Q (.bl (if neg then !ds.any fun z => PyData.eqv z d else ds.any fun z => PyData.eqv z d)) H
theorem op_inT {X : Cx} (hu : X.A.units + 65 < cLine) : OpR X (compareOp .In) (rInT X.K false) := by
  intro pins s σ H x y v u Q I rx ry h
  obtain ⟨d, ds, hd, he, sd, se, q⟩ := h
  obtain ⟨as, r1⟩ := Dp.reads I d x v hd rx
  obtain ⟨bs, r2⟩ := Dp.reads I (.tuple ds) y u he ry
  have c := SeqAt.canLay_of_shaped se
  rw [PyData.canLay0] at c
  refine SeqAt.in_tuple_reads r2 r1 c (SeqAt.canLay_of_shaped sd) ?_ ⟨.bl _, H, I, rfl, q⟩
  have : d.depth ≤ 64 := of_decide_eq_true (Bool.and_eq_true_iff.mp sd).2
  omega
theorem op_notInT {X : Cx} (hu : X.A.units + 65 < cLine) : OpR X (compareOp .NotIn) (rInT X.K true) := by
  intro pins s σ H x y v u Q I rx ry h
  obtain ⟨d, ds, hd, he, sd, se, q⟩ := h
  obtain ⟨as, r1⟩ := Dp.reads I d x v hd rx
  obtain ⟨bs, r2⟩ := Dp.reads I (.tuple ds) y u he ry
  have c := SeqAt.canLay_of_shaped se
  rw [PyData.canLay0] at c
  refine SeqAt.notIn_tuple_reads r2 r1 c (SeqAt.canLay_of_shaped sd) ?_ ⟨.bl _, H, I, rfl, q⟩
  have : d.depth ≤ 64 := of_decide_eq_true (Bool.and_eq_true_iff.mp sd).2
  omega
end
end Fx
/-! Fx7: dicts, what is in what, built-in functions. -/
namespace Fx
open PySem PySem.Spec L2
def keyOf : D → Option Key
  | .int i => some (.inl i)
  | .str x => some (.inr x)
  | _ => none
theorem keyOf_kD (k : Key) : keyOf (kD k) = some k := by cases k <;> rfl
def dictGet (es : List (D × D)) (k : Key) : Option D := (es.find? fun p => decide (keyOf p.1 = some k)).map (·.2)
def dictPut (es : List (D × D)) (k : Key) (d : D) : List (D × D) := if (es.any fun p => decide (keyOf p.1 = some k)) = true then es.map (fun p => if keyOf p.1 = some k then (p.1, d) else p) else es ++ [(kD k, d)]
def dictDrop (es : List (D × D)) (k : Key) : List (D × D) := es.filter fun p => decide (keyOf p.1 ≠ some k)
section
variable {K : PySem.W.Frag} {G H : Hp}
theorem RepKV.length : ∀ {kvs : List (Key × V)} {es : List (D × D)}, RepKV K G kvs es → kvs.length = es.length
  | _, _, .nil => rfl
  | _, _, .cons _ r => congrArg Nat.succ (RepKV.length r)
theorem key_dec (k j : Key) : decide (keyOf (kD j) = some k) = decide (j = k) := by
  rw [keyOf_kD]
  by_cases h : j = k
  · rw [h]; simp
  · rw [decide_eq_false h, decide_eq_false]
    exact fun e => h (Option.some.inj e)
theorem RepKV.get (k : Key) : ∀ {kvs : List (Key × V)} {es : List (D × D)}, RepKV K G kvs es → (valV kvs k = none ∧ dictGet es k = none) ∨ ∃ v d, valV kvs k = some v ∧ dictGet es k = some d ∧ Rep K G v d
  | _, _, .nil => .inl ⟨rfl, rfl⟩
  | _, _, .cons (k := j) (v := v) (d := d) (r := r) (s := s) h t => by
    have e : decide (keyOf (kD j) = some k) = decide (j = k) := key_dec k j
    by_cases hj : j = k
    · refine .inr ⟨v, d, valV_pos hj, ?_, h⟩
      unfold dictGet
      rw [List.find?_cons]
      show Option.map _ (match decide (keyOf (kD j) = some k) with | true => _ | false => _) = _
      rw [e, decide_eq_true hj]
      rfl
    · have e2 : dictGet ((kD j, d) :: s) k = dictGet s k := by
        unfold dictGet
        rw [List.find?_cons]
        show Option.map _ (match decide (keyOf (kD j) = some k) with | true => _ | false => _) = _
        rw [e, decide_eq_false hj]
      rw [valV_neg (p := (j, v)) hj, e2]
      exact RepKV.get k t
theorem RepKV.any (k : Key) : ∀ {kvs : List (Key × V)} {es : List (D × D)}, RepKV K G kvs es → (kvs.any fun kv => decide (kv.1 = k)) = es.any fun p => decide (keyOf p.1 = some k)
  | _, _, .nil => rfl
  | _, _, .cons (k := j) h t => by
    rw [List.any_cons, List.any_cons, RepKV.any k t]
    show (decide (j = k) || _) = (decide (keyOf (kD j) = some k) || _)
    rw [key_dec]
theorem RepKV.repl (k : Key) {v : V} {d : D} (h : Rep K G v d) : ∀ {kvs : List (Key × V)} {es : List (D × D)}, RepKV K G kvs es → RepKV K G (kvs.map fun kv => if kv.1 = k then (kv.1, v) else kv) (es.map fun p => if keyOf p.1 = some k then (p.1, d) else p)
  | _, _, .nil => .nil
  | _, _, .cons (k := j) (v := w) (d := e) q t => by
    rw [List.map_cons, List.map_cons]
    by_cases hj : j = k
    · show RepKV K G ((if j = k then (j, v) else (j, w)) :: _) ((if keyOf (kD j) = some k then (kD j, d) else (kD j, e)) :: _)
      rw [if_pos hj, if_pos (by rw [keyOf_kD, hj])]
      exact .cons h (RepKV.repl k h t)
    · show RepKV K G ((if j = k then (j, v) else (j, w)) :: _) ((if keyOf (kD j) = some k then (kD j, d) else (kD j, e)) :: _)
      rw [if_neg hj, if_neg (by rw [keyOf_kD]; exact fun z => hj (Option.some.inj z))]
      exact .cons q (RepKV.repl k h t)
theorem RepKV.append : ∀ {kvs kvs' : List (Key × V)} {es es' : List (D × D)}, RepKV K G kvs es → RepKV K G kvs' es' → RepKV K G (kvs ++ kvs') (es ++ es')
  | _, _, _, _, .nil, s => s
  | _, _, _, _, .cons h t, s => .cons h (RepKV.append t s)
theorem RepKV.put (k : Key) {v : V} {d : D} {kvs : List (Key × V)} {es : List (D × D)} (r : RepKV K G kvs es) (h : Rep K G v d) : RepKV K G (putK kvs k v) (dictPut es k d) := by
  unfold putK dictPut
  rw [r.any k]
  by_cases c : (es.any fun p => decide (keyOf p.1 = some k)) = true
  · rw [if_pos c, if_pos c]
    exact r.repl k h
  · rw [if_neg c, if_neg c]
    exact r.append (.cons h .nil)
theorem RepKV.drop (k : Key) : ∀ {kvs : List (Key × V)} {es : List (D × D)}, RepKV K G kvs es → RepKV K G (dropK kvs k) (dictDrop es k)
  | _, _, .nil => .nil
  | _, _, .cons (k := j) (v := w) (d := e) (r := r) (s := s) q t => by
    have ih := RepKV.drop k t
    unfold dropK dictDrop at ih ⊢
    rw [List.filter_cons, List.filter_cons]
    show RepKV K G (if decide (j ≠ k) = true then _ else _) (if decide (keyOf (kD j) ≠ some k) = true then _ else _)
    by_cases hj : j = k
    · rw [if_neg (by simp [hj]), if_neg (by simp [keyOf_kD, hj])]
      exact ih
    · rw [if_pos (by simp [hj]), if_pos (by rw [keyOf_kD]; simp [hj])]
      exact .cons q ih
theorem keyV {v : V} {d : D} {k : Key} (u : Use K G H v d) (h : keyOf d = some k) : v = kV k := by
  unfold keyOf at h
  split at h
  · cases h
    exact u.int
  · cases h
    exact u.str
  · cases h
theorem dget_of {a : Addr} {kvs : List (Key × V)} {k : Key} (h : Rd H a (.dK kvs)) : DGet H a (kV k) (valV kvs k) := .inl ⟨kvs, k, h, rfl, rfl⟩
end
/-! ### d[k], k in d -/
def rIxDD : R2 := fun x y H Q => ∃ a v, x = .ref a ∧ DGet H a y (some v) ∧ Q v H
theorem ix_dict {X : Cx} (hu : X.A.units + 1 < cLine) : IxR X rIxDD := by
  intro value slice pins s σ H x y v u Q I rx ry h hs
  obtain ⟨a, z, rfl, g, q⟩ := h
  cases rx
  exact PyProof.Rows.tail_any (dict_typeIs I g) PySem.F.slot_dict_getitem.lookup (d_getItem hu I g ry fun w' s3 I3 rw' => ⟨z, H, I3, rw', q⟩) hs
section
variable {K : PySem.W.Frag} {X : Cx}
/-- a subscript of anything -/
def dIxA : D → D → Option (D × Bool)
  | .dict es, k => (keyOf k).bind fun k => (dictGet es k).map fun d => (d, false)
  | x, k => dIx x k
abbrev rIxA (K : PySem.W.Frag) : R2 := fun x y H Q => rIx K x y H Q ∨ rIxDD x y H Q
theorem ix_A (hu : X.A.units + 1 < cLine) : IxR X (rIxA X.K) := ix_seq.or (ix_dict hu)
theorem o2_ixA : Op2 K (rIxA K) dIxA := fun x y d e z b G H Q s u1 u2 hg k => by
  cases d with
  | dict es =>
    obtain ⟨kk, h1, h2⟩ := Option.bind_eq_some_iff.mp (show ((keyOf e).bind fun k => (dictGet es k).map fun d => (d, false)) = some (z, b) from hg)
    obtain ⟨d', h3, h4⟩ := Option.map_eq_some_iff.mp h2
    cases h4
    obtain ⟨a, kvs, rfl, h5, r⟩ := u1.dict s
    rcases r.get kk with ⟨_, w⟩ | ⟨v, d2, w1, w2, w3⟩
    · rw [w] at h3
      cases h3
    · rw [w2] at h3
      cases h3
      exact .inr ⟨a, v, rfl, by rw [keyV u2 h1, ← w1]; exact dget_of h5, k v G H (New.refl s) (Fresh.sh w3)⟩
  | none => exact .inl (o2_ix x y _ e z b G H Q s u1 u2 hg k)
  | bool _ => exact .inl (o2_ix x y _ e z b G H Q s u1 u2 hg k)
  | int _ => exact .inl (o2_ix x y _ e z b G H Q s u1 u2 hg k)
  | str _ => exact .inl (o2_ix x y _ e z b G H Q s u1 u2 hg k)
  | list _ => exact .inl (o2_ix x y _ e z b G H Q s u1 u2 hg k)
  | tuple _ => exact .inl (o2_ix x y _ e z b G H Q s u1 u2 hg k)
def rInDD (neg : Bool) : R2 := fun x y H Q => ∃ a o, y = .ref a ∧ DGet H a x o ∧ Q (.bl (if neg then !o.isSome else o.isSome)) H
theorem op_inDD (hu : X.A.units + 1 < cLine) : OpR X (compareOp .In) (rInDD false) := by
  intro pins s σ H x y v u Q I rx ry h
  obtain ⟨a, o, rfl, g, q⟩ := h
  cases ry
  exact d_in hu I g rx fun s' I' => ⟨.bl o.isSome, H, I', rfl, q⟩
theorem op_notInDD (hu : X.A.units + 1 < cLine) : OpR X (compareOp .NotIn) (rInDD true) := by
  intro pins s σ H x y v u Q I rx ry h
  obtain ⟨a, o, rfl, g, q⟩ := h
  cases ry
  exact d_notIn hu I g rx fun s' I' => ⟨.bl (!o.isSome), H, I', rfl, q⟩
abbrev rInSg (neg : Bool) : R2 := fun x y H Q => ∃ (c : Nat) (z : Str), x = .str ⟨#[c]⟩ ∧ y = .str z ∧ Q (.bl (if neg then !decide (c ∈ z.cps.toList) else decide (c ∈ z.cps.toList))) H
theorem op_inSg : OpR X (compareOp .In) (rInSg false) := op_in_sign
theorem op_notInSg : OpR X (compareOp .NotIn) (rInSg true) := op_notIn_sign
/-- a text of one sign -/
def one1 : D → Option Nat
  | .str x => match x.cps.toList with
    | [c] => some c
    | _ => none
  | _ => none
theorem one1_of {d : D} {c : Nat} (h : one1 d = some c) : d = .str ⟨#[c]⟩ := by
  unfold one1 at h
  split at h
  · rename_i x
    split at h
    · rename_i c' q
      cases h
      obtain ⟨⟨l⟩⟩ := x
      have q' : l = [c] := q
      rw [q']
    · cases h
  · cases h
/-- is it there -/
def memD (x : D) : D → Option Bool
  | .list ds => if (SeqAt.shaped x && SeqAt.shaped (.list ds)) = true then some (ds.any fun z => PyData.eqv z x) else none
  | .tuple ds => if (SeqAt.shaped x && SeqAt.shaped (.tuple ds)) = true then some (ds.any fun z => PyData.eqv z x) else none
  | .dict es => (keyOf x).map fun k => (dictGet es k).isSome
  | .str z => (one1 x).map fun c => decide (c ∈ z.cps.toList)
  | _ => none
def dIn (x y : D) : Option (D × Bool) := (memD x y).map fun b => (.bool b, false)
def dNotIn (x y : D) : Option (D × Bool) := (memD x y).map fun b => (.bool (!b), false)
abbrev rInA (K : PySem.W.Frag) : R2 := fun x y H Q => (rInD K x y H Q ∨ rInT K false x y H Q) ∨ (rInDD false x y H Q ∨ rInSg false x y H Q)
abbrev rNotInA (K : PySem.W.Frag) : R2 := fun x y H Q => (rNotInD K x y H Q ∨ rInT K true x y H Q) ∨ (rInDD true x y H Q ∨ rInSg true x y H Q)
theorem op_inA (hu : X.A.units + 65 < cLine) : OpR X (compareOp .In) (rInA X.K) := ((op_inD hu).or (op_inT hu)).or ((op_inDD (by omega)).or op_inSg)
theorem op_notInA (hu : X.A.units + 65 < cLine) : OpR X (compareOp .NotIn) (rNotInA X.K) := ((op_notInD hu).or (op_notInT hu)).or ((op_notInDD (by omega)).or op_notInSg)
theorem memD_cases {x y : V} {d e : D} {c : Bool} {G H : Hp} (s : Same G H) (u1 : Use K G H x d) (u2 : Use K G H y e) (h : memD d e = some c) :
    (∃ ds, e = .list ds ∧ Dp K H x d ∧ Dp K H y e ∧ SeqAt.shaped d = true ∧ SeqAt.shaped e = true ∧ c = ds.any fun z => PyData.eqv z d) ∨
    (∃ ds, e = .tuple ds ∧ Dp K H x d ∧ Dp K H y e ∧ SeqAt.shaped d = true ∧ SeqAt.shaped e = true ∧ c = ds.any fun z => PyData.eqv z d) ∨
    (∃ a o, y = .ref a ∧ DGet H a x o ∧ c = o.isSome) ∨ (∃ (k : Nat) (z : Str), x = .str ⟨#[k]⟩ ∧ y = .str z ∧ c = decide (k ∈ z.cps.toList)) := by
  unfold memD at h
  split at h
  · obtain ⟨hl, h⟩ := ite_some h
    cases h
    obtain ⟨h1, h2⟩ := Bool.and_eq_true_iff.mp hl
    exact .inl ⟨_, rfl, u1.dp s (SeqAt.canLay_of_shaped h1), u2.dp s (SeqAt.canLay_of_shaped h2), h1, h2, rfl⟩
  · obtain ⟨hl, h⟩ := ite_some h
    cases h
    obtain ⟨h1, h2⟩ := Bool.and_eq_true_iff.mp hl
    exact .inr (.inl ⟨_, rfl, u1.dp s (SeqAt.canLay_of_shaped h1), u2.dp s (SeqAt.canLay_of_shaped h2), h1, h2, rfl⟩)
  · obtain ⟨k, h1, h2⟩ := Option.map_eq_some_iff.mp h
    obtain ⟨a, kvs, rfl, h5, r⟩ := u2.dict s
    refine .inr (.inr (.inl ⟨a, valV kvs k, rfl, by rw [keyV u1 h1]; exact dget_of h5, ?_⟩))
    rcases r.get k with ⟨w1, w2⟩ | ⟨v, d2, w1, w2, w3⟩
    · rw [w1, ← h2, w2]; rfl
    · rw [w1, ← h2, w2]; rfl
  · obtain ⟨n, h1, h2⟩ := Option.map_eq_some_iff.mp h
    have e := one1_of h1
    subst e
    exact .inr (.inr (.inr ⟨_, _, u1.str, u2.str, h2.symm⟩))
  · cases h
theorem o2_in : Op2 K (rInA K) dIn := fun x y d e z b G H Q s u1 u2 hg k => by
  obtain ⟨c, h1, h2⟩ := Option.map_eq_some_iff.mp hg
  cases h2
  have q := k _ G H (New.refl s) (Fresh.sh (.bl c))
  rcases memD_cases s u1 u2 h1 with ⟨ds, rfl, a1, a2, a3, a4, rfl⟩ | ⟨ds, rfl, a1, a2, a3, a4, rfl⟩ | ⟨a, o, rfl, g, rfl⟩ | ⟨n, w, rfl, rfl, rfl⟩
  · exact .inl (.inl ⟨_, ds, a1, a2, a3, a4, q⟩)
  · exact .inl (.inr ⟨_, ds, a1, a2, a3, a4, q⟩)
  · exact .inr (.inl ⟨a, o, rfl, g, q⟩)
  · exact .inr (.inr ⟨n, w, rfl, rfl, q⟩)
theorem o2_notIn : Op2 K (rNotInA K) dNotIn := fun x y d e z b G H Q s u1 u2 hg k => by
  obtain ⟨c, h1, h2⟩ := Option.map_eq_some_iff.mp hg
  cases h2
  have q := k _ G H (New.refl s) (Fresh.sh (.bl (!c)))
  rcases memD_cases s u1 u2 h1 with ⟨ds, rfl, a1, a2, a3, a4, rfl⟩ | ⟨ds, rfl, a1, a2, a3, a4, rfl⟩ | ⟨a, o, rfl, g, rfl⟩ | ⟨n, w, rfl, rfl, rfl⟩
  · exact .inl (.inl ⟨_, ds, a1, a2, a3, a4, q⟩)
  · exact .inl (.inr ⟨_, ds, a1, a2, a3, a4, q⟩)
  · exact .inr (.inl ⟨a, o, rfl, g, q⟩)
  · exact .inr (.inr ⟨n, w, rfl, rfl, q⟩)

/-! ### is None, is True -/
def rIsB (neg : Bool) (c : Bool) : R2 := fun x y H Q => y = .bl c ∧ (∀ n, x ≠ .ty n) ∧ (Q (.bl (if neg then !decide (x = .bl c) else decide (x = .bl c))) H)
theorem val_bl {x : V} {v : Value} {c : Bool} (r : RelV x v) : (v == Value.bool c) = decide (x = .bl c) := by
  cases x with
  | non => cases r; rfl
  | bl b =>
    cases r
    by_cases h : b = c
    · subst h; simp
    · rw [decide_eq_false (fun z => h (V.bl.inj z))]
      exact beq_false_of_ne fun z => h (Value.bool.inj z)
  | int _ => obtain ⟨t, rfl⟩ := r; rfl
  | str _ => obtain ⟨t, rfl⟩ := r; rfl
  | byt _ => obtain ⟨t, rfl⟩ := r; rfl
  | flt _ => obtain ⟨t, rfl⟩ := r; rfl
  | ref _ => cases r; rfl
  | ty _ => cases r; rfl
theorem op_isB {c : Bool} : OpR X (compareOp .Is) (rIsB false c) := by
  intro pins s σ H x y v u Q I rx ry h
  obtain ⟨rfl, hn, q⟩ := h
  cases ry
  have e := val_bl (c := c) rx
  have fin : EP X pins σ Q (.bool (v == Value.bool c)) s := ⟨.bl (decide (x = .bl c)), H, I, by rw [e]; rfl, q⟩
  cases x with
  | ty n => exact absurd rfl (hn n)
  | non => cases rx; exact wpAny_pure fin
  | bl b => cases rx; exact wpAny_pure fin
  | int _ => obtain ⟨t, rfl⟩ := rx; exact wpAny_pure fin
  | str _ => obtain ⟨t, rfl⟩ := rx; exact wpAny_pure fin
  | byt _ => obtain ⟨t, rfl⟩ := rx; exact wpAny_pure fin
  | flt _ => obtain ⟨t, rfl⟩ := rx; exact wpAny_pure fin
  | ref _ => cases rx; exact wpAny_pure fin
theorem op_isNotB {c : Bool} : OpR X (compareOp .IsNot) (rIsB true c) := by
  intro pins s σ H x y v u Q I rx ry h
  obtain ⟨rfl, hn, q⟩ := h
  cases ry
  have e := val_bl (c := c) rx
  have fin : EP X pins σ Q (.bool (!(v == Value.bool c))) s := ⟨.bl (!decide (x = .bl c)), H, I, by rw [e]; rfl, q⟩
  cases x with
  | ty n => exact absurd rfl (hn n)
  | non => cases rx; exact wpAny_pure fin
  | bl b => cases rx; exact wpAny_pure fin
  | int _ => obtain ⟨t, rfl⟩ := rx; exact wpAny_pure fin
  | str _ => obtain ⟨t, rfl⟩ := rx; exact wpAny_pure fin
  | byt _ => obtain ⟨t, rfl⟩ := rx; exact wpAny_pure fin
  | flt _ => obtain ⟨t, rfl⟩ := rx; exact wpAny_pure fin
  | ref _ => cases rx; exact wpAny_pure fin
def isBD (c : Bool) : D → Bool
  | .bool b => b == c
  | _ => false
def isND : D → Bool
  | .none => true
  | _ => false
theorem use_ty {G H : Hp} {x : V} {d : D} (u : Use K G H x d) : ∀ n, x ≠ .ty n := fun n e => by
  subst e
  rcases u with u | ⟨a, o, e, _⟩
  · cases u
  · cases e
theorem use_bl {G H : Hp} {x : V} {d : D} {c : Bool} (u : Use K G H x d) : decide (x = .bl c) = isBD c d := by
  cases d with
  | bool b =>
    rw [u.bool]
    by_cases h : b = c
    · subst h; simp [isBD]
    · rw [decide_eq_false (fun z => h (V.bl.inj z))]
      exact (beq_false_of_ne h).symm
  | none => rw [u.none]; rfl
  | int i => rw [u.int]; rfl
  | str z => rw [u.str]; rfl
  | list ds =>
    refine decide_eq_false fun e => ?_
    subst e
    rcases u with u | ⟨a, o, e, _⟩
    · cases u
    · cases e
  | tuple ds =>
    refine decide_eq_false fun e => ?_
    subst e
    rcases u with u | ⟨a, o, e, _⟩
    · cases u
    · cases e
  | dict ds =>
    refine decide_eq_false fun e => ?_
    subst e
    rcases u with u | ⟨a, o, e, _⟩
    · cases u
    · cases e
theorem use_non {G H : Hp} {x : V} {d : D} (u : Use K G H x d) : decide (x = .non) = isND d := by
  cases d with
  | none => rw [u.none]; rfl
  | bool b => rw [u.bool]; rfl
  | int i => rw [u.int]; rfl
  | str z => rw [u.str]; rfl
  | list ds =>
    refine decide_eq_false fun e => ?_
    subst e
    rcases u with u | ⟨a, o, e, _⟩
    · cases u
    · cases e
  | tuple ds =>
    refine decide_eq_false fun e => ?_
    subst e
    rcases u with u | ⟨a, o, e, _⟩
    · cases u
    · cases e
  | dict ds =>
    refine decide_eq_false fun e => ?_
    subst e
    rcases u with u | ⟨a, o, e, _⟩
    · cases u
    · cases e
def fIs (p : Ov) (g : D → Bool) : Ev := f1 p fun d => some (.bool (g d), false)
theorem t2c_of {p : Ov} {r : R2} {c : V} {g : D → Bool} {σ : St} {H : Hp} {Q : VK} (hr : ∀ x d G H Q, Use K G H x d → Q (.bl (g d)) H → r x c H Q) (h : FE K (fIs p g) σ H Q) : tOp r (FO K p) (tC c) σ H Q := by
  obtain ⟨G, en, z, b, en', S, e1, k⟩ := h
  obtain ⟨⟨x, en1⟩, p1, e2⟩ := Option.bind_eq_some_iff.mp e1
  obtain ⟨d, p3, e4⟩ := Option.bind_eq_some_iff.mp e2
  cases e4
  exact ⟨G, en, x, _, S, p1, fun v G1 H1 T1 r1 => hr v d G1 H1 Q (r1.use T1.sr p3) (k _ G1 H1 T1 (Rep.bl _))⟩
variable {a b : Expr} {pos pos' : Pos}
theorem fe_isN {p : Ov} {j} (ha : PE X a (FO X.K p)) : PE X (.Compare a [.Is] [.Constant .none j pos'] pos) (FE X.K (fIs p isND)) :=
  pe_imp (pe_cmpR op_isN ha pe_non rfl) fun _ _ _ h => t2c_of (fun x d G H Q u q => ⟨rfl, by rw [use_non u]; exact q⟩) h
theorem fe_notN {p : Ov} {j} (ha : PE X a (FO X.K p)) : PE X (.Compare a [.IsNot] [.Constant .none j pos'] pos) (FE X.K (fIs p fun d => !isND d)) :=
  pe_imp (pe_cmpR op_notN ha pe_non rfl) fun _ _ _ h => t2c_of (fun x d G H Q u q => ⟨rfl, by rw [use_non u]; exact q⟩) h
theorem fe_isB {p : Ov} {c : Bool} {j} (ha : PE X a (FO X.K p)) : PE X (.Compare a [.Is] [.Constant (.bool c) j pos'] pos) (FE X.K (fIs p (isBD c))) :=
  pe_imp (pe_cmpR op_isB ha pe_bl rfl) fun _ _ _ h => t2c_of (fun x d G H Q u q => ⟨rfl, use_ty u, by rw [use_bl u]; exact q⟩) h
theorem fe_isNotB {p : Ov} {c : Bool} {j} (ha : PE X a (FO X.K p)) : PE X (.Compare a [.IsNot] [.Constant (.bool c) j pos'] pos) (FE X.K (fIs p fun d => !isBD c d)) :=
  pe_imp (pe_cmpR op_isNotB ha pe_bl rfl) fun _ _ _ h => t2c_of (fun x d G H Q u q => ⟨rfl, use_ty u, by rw [use_bl u]; exact q⟩) h

/-! ### isinstance -/
def tyD : D → String
  | .none => "NoneType"
  | .bool _ => "bool"
  | .int _ => "int"
  | .str _ => "str"
  | .list _ => "list"
  | .tuple _ => "tuple"
  | .dict _ => "dict"
theorem use_tyx {G H : Hp} {x : V} {d : D} (s : Same G H) (u : Use K G H x d) : TyX K H x (.type (tyD d)) := by
  cases d with
  | none => rw [u.none]; exact .base .non
  | bool b => rw [u.bool]; exact .base (.bl b)
  | int i => rw [u.int]; exact .base (.int i)
  | str z => rw [u.str]; exact .base (.str z)
  | list ds =>
    obtain ⟨a, xs, rfl, h, _⟩ := u.list s
    rcases h with (h | ⟨o, h⟩) | ⟨o, its, n, h, hc, _⟩
    · exact .base (.lst h)
    · exact .base (.frz h)
    · exact .kList h hc
  | tuple ds =>
    obtain ⟨a, xs, rfl, h, _⟩ := u.tuple s
    rcases h with (h | ⟨o, h⟩) | ⟨o, its, n, h, hc, _⟩
    · exact .base (.tup h)
    · exact .fTuple h
    · exact .kTuple h hc
  | dict es =>
    obtain ⟨a, kvs, rfl, h, _⟩ := u.dict s
    rcases h with h | ⟨o, h⟩
    · exact .base (.dK h)
    · exact .fDict h
def isT (T : String) (d : D) : Bool := (kitB (tyD d) T).getD false
def fIsi (p : Ov) (T : String) : Ev := f1 p fun d => (kitB (tyD d) T).map fun b => (.bool b, false)
theorem fe_isi {p : Ov} {T : String} {y : Str} {p1 p2 : Pos} (ha : PE X a (FO X.K p)) (hm : X.mg "isinstance" = none) (hT : X.mg y = none) (hv : bootBuiltins y = some (.type T) := by decide +kernel) (hg : Gl X "isinstance" := by rfl) (hgT : Gl X y := by rfl) (hn : y ≠ "__name__" := by decide) (hd : (y == ("__debug__" : Str)) = false := by decide)
    (he : starEach [a, .Name y p2] X.env = (false, eval a X.env) :: starEach [.Name y p2] X.env := by rfl) (he2 : starEach [.Name y p2] X.env = (false, eval (.Name y p2) X.env) :: starEach [] X.env := by rfl) (hpl : (backTo pos (starEach [.Name y p2] X.env)).any (·.1) = false := by rfl) :
    PE X (.Call (.Name "isinstance" p1) [a, .Name y p2] [] pos) (FE X.K (fIsi p T)) :=
  pe_imp (pe_callB call_isi hg hm (by decide +kernel) (pa_cons ha (pa_cons (pe_bltn (v := .ty T) hgT hT hv rfl hn hd) pa_nil he2) he) (by decide) (by decide) he hpl) fun σ H Q ⟨G, en, z, b, en', S, e1, k⟩ => by
    obtain ⟨⟨x, en1⟩, q1, e2⟩ := Option.bind_eq_some_iff.mp e1
    obtain ⟨d, q3, e4⟩ := Option.bind_eq_some_iff.mp e2
    obtain ⟨w, e5, e6⟩ := Option.map_eq_some_iff.mp e4
    obtain ⟨c, e7, e8⟩ := Option.map_eq_some_iff.mp e5
    cases e8
    cases e6
    exact ⟨G, en, x, _, S, q1, fun v G1 H1 T1 r1 => ⟨v, _, _, _, c, rfl, .ty T, use_tyx T1.sr.sub (r1.use T1.sr q3), kit_ty e7, k _ G1 H1 T1 (Rep.bl c)⟩⟩
end
end Fx
/-! Fx8: calls of built-ins, dicts that are made. -/
namespace Fx
open PySem PySem.Spec L2
section
variable {K : PySem.W.Frag} {X : Cx} {a b e : Expr} {pos p : Pos}
/-! ### len, abs, int, max, min -/
def lenD : D → Option Nat
  | .list ds => some ds.length
  | .tuple ds => some ds.length
  | .str z => if z.length ≤ sizeLine then some z.length else none
  | .dict es => some es.length
  | _ => none
def dLen : List D → Option (D × Bool)
  | [d] => (lenD d).map fun n => (.int (n : Nat), false)
  | _ => none
abbrev rLenA (K : PySem.W.Frag) : List V → Hp → VK → Prop := fun xs H Q => (∃ x n, xs = [x] ∧ LenV K x H n ∧ Q (.int (n : Nat)) H) ∨ (∃ a kvs, xs = [.ref a] ∧ Rd H a (.dK kvs) ∧ Q (.int (kvs.length : Nat)) H)
theorem cr_lenA : CallR X (.builtin "len") (rLenA X.K) := by
  refine call_len.or ?_
  intro pins s σ H xs us Q I r ⟨a, kvs, e, h, q⟩
  subst e
  obtain ⟨u, rfl, rx⟩ := Vals.one r
  cases rx
  exact d_len I h fun t s' I' => ⟨.int (kvs.length : Nat), H, I', ⟨t, rfl⟩, q⟩
theorem on_len : OpN K (rLenA K) dLen := fun vs ds z b G H Q s u hg k => by
  unfold dLen at hg
  split at hg
  · obtain ⟨n, h1, h2⟩ := Option.map_eq_some_iff.mp hg
    cases h2
    obtain ⟨v, rfl, u0⟩ := u.one
    have q := k (.int (n : Nat)) G H (New.refl s) (Fresh.sh (.int _))
    unfold lenD at h1
    split at h1
    · cases h1
      obtain ⟨a, xs, rfl, h, r⟩ := u0.list s
      exact .inl ⟨_, _, rfl, .inl ⟨xs, h, r.length.symm⟩, q⟩
    · cases h1
      obtain ⟨a, xs, rfl, h, r⟩ := u0.tuple s
      exact .inl ⟨_, _, rfl, .inr ⟨xs, h, r.length.symm⟩, q⟩
    · obtain ⟨hl, h1⟩ := ite_some h1
      cases h1
      rw [u0.str]
      exact .inl ⟨_, _, rfl, ⟨hl, rfl⟩, q⟩
    · cases h1
      obtain ⟨a, kvs, rfl, h, r⟩ := u0.dict s
      exact .inr ⟨a, kvs, rfl, h, by rw [r.length]; exact q⟩
    · cases h1
  · cases hg
def dAbs : List D → Option (D × Bool)
  | [.int i] => some (.int (if i < 0 then -i else i), false)
  | _ => none
theorem on_abs : OpN K (fun xs H Q => ∃ i, xs = [V.int i] ∧ Q (V.int (if i < 0 then -i else i)) H) dAbs := fun vs ds z b G H Q s u hg k => by
  unfold dAbs at hg
  split at hg
  · cases hg
    obtain ⟨v, rfl, u0⟩ := u.one
    exact ⟨_, by rw [u0.int], k _ G H (New.refl s) (Fresh.sh (.int _))⟩
  · cases hg
def dInt : List D → Option (D × Bool)
  | [.int i] => some (.int i, false)
  | [.bool c] => some (.int (if c = true then 1 else 0), false)
  | _ => none
theorem on_int : OpN K (fun xs H Q => (∃ i, xs = [V.int i] ∧ Q (V.int i) H) ∨ ∃ k, xs = [V.bl k] ∧ Q (V.int (if k = true then 1 else 0)) H) dInt := fun vs ds z b G H Q s u hg k => by
  unfold dInt at hg
  split at hg
  · cases hg
    obtain ⟨v, rfl, u0⟩ := u.one
    exact .inl ⟨_, by rw [u0.int], k _ G H (New.refl s) (Fresh.sh (.int _))⟩
  · cases hg
    obtain ⟨v, rfl, u0⟩ := u.one
    exact .inr ⟨_, by rw [u0.bool], k _ G H (New.refl s) (Fresh.sh (.int _))⟩
  · cases hg
def dMax2 : List D → Option (D × Bool)
  | [.int i, .int j] => some (.int (if j > i then j else i), false)
  | _ => none
def dMin2 : List D → Option (D × Bool)
  | [.int i, .int j] => some (.int (if j < i then j else i), false)
  | _ => none
theorem on_max2 : OpN K (fun xs H Q => ∃ i j, xs = [V.int i, V.int j] ∧ Q (V.int (if j > i then j else i)) H) dMax2 := fun vs ds z b G H Q s u hg k => by
  unfold dMax2 at hg
  split at hg
  · cases hg
    obtain ⟨v, w, rfl, u1, u2⟩ := u.two
    exact ⟨_, _, by rw [u1.int, u2.int], k _ G H (New.refl s) (Fresh.sh (.int _))⟩
  · cases hg
theorem on_min2 : OpN K (fun xs H Q => ∃ i j, xs = [V.int i, V.int j] ∧ Q (V.int (if j < i then j else i)) H) dMin2 := fun vs ds z b G H Q s u hg k => by
  unfold dMin2 at hg
  split at hg
  · cases hg
    obtain ⟨v, w, rfl, u1, u2⟩ := u.two
    exact ⟨_, _, by rw [u1.int, u2.int], k _ G H (New.refl s) (Fresh.sh (.int _))⟩
  · cases hg
/-- a list of ints, of bools -/
def intsD : List D → Option (List Int)
  | [] => some []
  | .int i :: r => (intsD r).map fun is => i :: is
  | _ => none
def boolsD : List D → Option (List Bool)
  | [] => some []
  | .bool i :: r => (boolsD r).map fun is => i :: is
  | _ => none
theorem intsD_of {G : Hp} : ∀ {xs : List V} {ds : List D} {is : List Int}, Reps K G xs ds → intsD ds = some is → xs = is.map V.int
  | _, _, _, .nil, h => by cases h; rfl
  | _, _, is, .cons (d := d) h t, e => by
    cases d <;> first | (cases e; done) | skip
    obtain ⟨js, h1, h2⟩ := Option.map_eq_some_iff.mp e
    subst h2
    cases h
    rw [intsD_of t h1]
    rfl
theorem boolsD_of {G : Hp} : ∀ {xs : List V} {ds : List D} {is : List Bool}, Reps K G xs ds → boolsD ds = some is → xs = is.map V.bl
  | _, _, _, .nil, h => by cases h; rfl
  | _, _, is, .cons (d := d) h t, e => by
    cases d <;> first | (cases e; done) | skip
    obtain ⟨js, h1, h2⟩ := Option.map_eq_some_iff.mp e
    subst h2
    cases h
    rw [boolsD_of t h1]
    rfl
def dAll : List D → Option (D × Bool)
  | [.list ds] => (boolsD ds).map fun bs => (.bool (bs.all id), false)
  | _ => none
def dAny : List D → Option (D × Bool)
  | [.list ds] => (boolsD ds).map fun bs => (.bool (bs.any id), false)
  | _ => none
def dSum : List D → Option (D × Bool)
  | [.list ds] => (intsD ds).map fun is => (.int is.sum, false)
  | _ => none
theorem on_all : OpN K (rAll K) dAll := fun vs ds z b G H Q s u hg k => by
  unfold dAll at hg
  split at hg
  · obtain ⟨bs, h1, h2⟩ := Option.map_eq_some_iff.mp hg
    cases h2
    obtain ⟨v, rfl, u0⟩ := u.one
    obtain ⟨a, xs, rfl, h, r⟩ := u0.list s
    exact ⟨a, bs, rfl, by rw [← boolsD_of r h1]; exact h, k _ G H (New.refl s) (Fresh.sh (.bl _))⟩
  · cases hg
theorem on_any : OpN K (rAny K) dAny := fun vs ds z b G H Q s u hg k => by
  unfold dAny at hg
  split at hg
  · obtain ⟨bs, h1, h2⟩ := Option.map_eq_some_iff.mp hg
    cases h2
    obtain ⟨v, rfl, u0⟩ := u.one
    obtain ⟨a, xs, rfl, h, r⟩ := u0.list s
    exact ⟨a, bs, rfl, by rw [← boolsD_of r h1]; exact h, k _ G H (New.refl s) (Fresh.sh (.bl _))⟩
  · cases hg
theorem on_sum : OpN K (rSum K) dSum := fun vs ds z b G H Q s u hg k => by
  unfold dSum at hg
  split at hg
  · obtain ⟨bs, h1, h2⟩ := Option.map_eq_some_iff.mp hg
    cases h2
    obtain ⟨v, rfl, u0⟩ := u.one
    obtain ⟨a, xs, rfl, h, r⟩ := u0.list s
    exact ⟨a, bs, rfl, by rw [← intsD_of r h1]; exact h, k _ G H (New.refl s) (Fresh.sh (.int _))⟩
  · cases hg
/-- the greatest, the least of a list -/
def maxI : List Int → Option Int
  | [] => none
  | i :: r => some (r.foldl (fun m j => if j > m then j else m) i)
def minI : List Int → Option Int
  | [] => none
  | i :: r => some (r.foldl (fun m j => if j < m then j else m) i)
theorem maxI_is {is : List Int} {m : Int} (h : maxI is = some m) : 0 < is.length ∧ m ∈ is ∧ ∀ j ∈ is, j ≤ m := by
  cases is with
  | nil => cases h
  | cons i r =>
    have go : ∀ (r : List Int) (i : Int), (r.foldl (fun m j => if j > m then j else m) i) ∈ i :: r ∧ ∀ j ∈ i :: r, j ≤ r.foldl (fun m j => if j > m then j else m) i := by
      intro r
      induction r with
      | nil => intro i; exact ⟨List.mem_cons_self .., fun j hj => by simp at hj; rw [hj]; exact Int.le_refl _⟩
      | cons c r ih =>
        intro i
        rw [List.foldl_cons]
        obtain ⟨h1, h2⟩ := ih (if c > i then c else i)
        refine ⟨?_, fun j hj => ?_⟩
        · rcases List.mem_cons.mp h1 with h1 | h1
          · rw [h1]
            by_cases hc : c > i
            · rw [if_pos hc]; simp
            · rw [if_neg hc]; simp
          · exact List.mem_cons_of_mem _ (List.mem_cons_of_mem _ h1)
        · have b0 := h2 _ (List.mem_cons_self ..)
          rcases List.mem_cons.mp hj with rfl | hj
          · by_cases hc : c > j
            · rw [if_pos hc] at b0 ⊢; omega
            · rw [if_neg hc] at b0 ⊢; exact b0
          · rcases List.mem_cons.mp hj with rfl | hj
            · by_cases hc : j > i
              · rw [if_pos hc] at b0 ⊢; exact b0
              · rw [if_neg hc] at b0 ⊢; omega
            · exact h2 j (List.mem_cons_of_mem _ hj)
    cases h
    exact ⟨Nat.succ_pos _, (go r i).1, (go r i).2⟩
theorem minI_is {is : List Int} {m : Int} (h : minI is = some m) : 0 < is.length ∧ m ∈ is ∧ ∀ j ∈ is, m ≤ j := by
  cases is with
  | nil => cases h
  | cons i r =>
    have go : ∀ (r : List Int) (i : Int), (r.foldl (fun m j => if j < m then j else m) i) ∈ i :: r ∧ ∀ j ∈ i :: r, r.foldl (fun m j => if j < m then j else m) i ≤ j := by
      intro r
      induction r with
      | nil => intro i; exact ⟨List.mem_cons_self .., fun j hj => by simp at hj; rw [hj]; exact Int.le_refl _⟩
      | cons c r ih =>
        intro i
        rw [List.foldl_cons]
        obtain ⟨h1, h2⟩ := ih (if c < i then c else i)
        refine ⟨?_, fun j hj => ?_⟩
        · rcases List.mem_cons.mp h1 with h1 | h1
          · rw [h1]
            by_cases hc : c < i
            · rw [if_pos hc]; simp
            · rw [if_neg hc]; simp
          · exact List.mem_cons_of_mem _ (List.mem_cons_of_mem _ h1)
        · have b0 := h2 _ (List.mem_cons_self ..)
          rcases List.mem_cons.mp hj with rfl | hj
          · by_cases hc : c < j
            · rw [if_pos hc] at b0 ⊢; omega
            · rw [if_neg hc] at b0 ⊢; exact b0
          · rcases List.mem_cons.mp hj with rfl | hj
            · by_cases hc : j < i
              · rw [if_pos hc] at b0 ⊢; exact b0
              · rw [if_neg hc] at b0 ⊢; omega
            · exact h2 j (List.mem_cons_of_mem _ hj)
    cases h
    exact ⟨Nat.succ_pos _, (go r i).1, (go r i).2⟩
def dMaxI : List D → Option (D × Bool)
  | [.list ds] => (intsD ds).bind fun is => (maxI is).map fun m => (.int m, false)
  | _ => none
def dMinI : List D → Option (D × Bool)
  | [.list ds] => (intsD ds).bind fun is => (minI is).map fun m => (.int m, false)
  | _ => none
theorem on_maxI : OpN K (rMax K) dMaxI := fun vs ds z b G H Q s u hg k => by
  unfold dMaxI at hg
  split at hg
  · obtain ⟨is, h1, h2⟩ := Option.bind_eq_some_iff.mp hg
    obtain ⟨m, h3, h4⟩ := Option.map_eq_some_iff.mp h2
    cases h4
    obtain ⟨v, rfl, u0⟩ := u.one
    obtain ⟨a, xs, rfl, h, r⟩ := u0.list s
    obtain ⟨w1, w2, w3⟩ := maxI_is h3
    refine ⟨a, is, rfl, by rw [← intsD_of r h1]; exact h, w1, fun m' h5 h6 => ?_⟩
    have e : m' = m := by have := w3 m' h5; have := h6 m w2; omega
    rw [e]
    exact k _ G H (New.refl s) (Fresh.sh (.int _))
  · cases hg
theorem on_minI : OpN K (rMin K) dMinI := fun vs ds z b G H Q s u hg k => by
  unfold dMinI at hg
  split at hg
  · obtain ⟨is, h1, h2⟩ := Option.bind_eq_some_iff.mp hg
    obtain ⟨m, h3, h4⟩ := Option.map_eq_some_iff.mp h2
    cases h4
    obtain ⟨v, rfl, u0⟩ := u.one
    obtain ⟨a, xs, rfl, h, r⟩ := u0.list s
    obtain ⟨w1, w2, w3⟩ := minI_is h3
    refine ⟨a, is, rfl, by rw [← intsD_of r h1]; exact h, w1, fun m' h5 h6 => ?_⟩
    have e : m' = m := by have := w3 m' h5; have := h6 m w2; omega
    rw [e]
    exact k _ G H (New.refl s) (Fresh.sh (.int _))
  · cases hg

/-! ### list(x), tuple(x) -/
def dList : List D → Option (D × Bool)
  | [.list ds] => some (.list ds, true)
  | [.tuple ds] => some (.list ds, true)
  | _ => none
theorem on_list : OpN K (fun xs H Q => ∃ p ys, xs = [V.ref p] ∧ (SqL K H p ys ∨ SqT K H p ys) ∧ ∀ l, H l = none → Q (.ref l) (upd H l (.lst ys))) dList := fun vs ds z b G H Q s u hg k => by
  unfold dList at hg
  split at hg
  · cases hg
    obtain ⟨v, rfl, u0⟩ := u.one
    obtain ⟨a, xs, rfl, h, r⟩ := u0.list s
    exact ⟨a, xs, rfl, .inl h, fun p hp => k _ _ _ (New.own s hp) (Fresh.new s hp (.lst r))⟩
  · cases hg
    obtain ⟨v, rfl, u0⟩ := u.one
    obtain ⟨a, xs, rfl, h, r⟩ := u0.tuple s
    exact ⟨a, xs, rfl, .inr h, fun p hp => k _ _ _ (New.own s hp) (Fresh.new s hp (.lst r))⟩
  · cases hg
def rTupOf (K : PySem.W.Frag) : List V → Hp → VK → Prop := fun xs H Q => ∃ p ys, xs = [V.ref p] ∧ ((SqL K H p ys ∧ ∀ l o, H l = none → o.dict = none → Q (.ref l) (upd H l (.frz o (.tup ys)))) ∨ (SqT K H p ys ∧ Q (.ref p) H))
theorem cr_tupOf : CallR X (.type "tuple") (rTupOf X.K) := by
  intro pins s σ H xs us Q I r ⟨p, ys, ex, h⟩
  subst ex
  obtain ⟨u, rfl, rx⟩ := Vals.one r
  cases rx
  rcases h with ⟨hq, q⟩ | ⟨hq, q⟩
  · obtain ⟨its, r', pl, hz⟩ := I.list hq
    have hlen := r'.length
    refine call_tuple_list pl.isList (fun h' kp => ?_) (by rw [List.size_toArray]; omega)
    have I1 : Inv X pins σ H { s with heap := h' } := I.kept (t' := s.toks) kp
    exact ⟨.ref _, _, inv_tupZ I1 r' hz, rfl, q _ _ (I1.hok.fresh (Nat.le_refl _)) rfl⟩
  · obtain ⟨its, r', pl, hz⟩ := I.tuple hq
    exact call_tuple_same pl ⟨.ref p, H, I, rfl, q⟩
def dTuple : List D → Option (D × Bool)
  | [.list ds] => some (.tuple ds, false)
  | [.tuple ds] => some (.tuple ds, false)
  | _ => none
theorem on_tuple : OpN K (rTupOf K) dTuple := fun vs ds z b G H Q s u hg k => by
  unfold dTuple at hg
  split at hg
  · cases hg
    obtain ⟨v, rfl, u0⟩ := u.one
    obtain ⟨a, xs, rfl, h, r⟩ := u0.list s
    refine ⟨a, xs, rfl, .inl ⟨h, fun p o hp ho => ?_⟩⟩
    have N := New.shd (o := .frz o (.tup xs)) s hp
    exact k _ _ _ N (Fresh.sh (.tup (.inl ⟨o, upd_same, ho⟩) (r.mono N.ext.g)))
  · cases hg
    obtain ⟨v, rfl, u0⟩ := u.one
    obtain ⟨a, xs, rfl, h, r⟩ := u0.tupG
    exact ⟨a, xs, rfl, .inr ⟨seqT s h.sq, k _ G H (New.refl s) (Fresh.sh (.tup h r))⟩⟩
  · cases hg

/-! ### dicts that are made -/
theorem fe_dnew : PE X (.Dict [] [] pos) (FE X.K fun en => some (.dict [], true, en)) := pe_imp pe_dnewK fun σ H Q ⟨G, en, d, b, en', S, e1, k⟩ => by
  cases e1
  intro q hq
  have N := New.own (o := .dK []) S.sub hq
  exact k _ _ _ (N.step S) (Fresh.res S (Fresh.new S.sub hq (.dK .nil)))
def pairsOf : List D → Option (List (Key × D))
  | [] => some []
  | .tuple [k, v] :: r => (keyOf k).bind fun k => (pairsOf r).map fun t => (k, v) :: t
  | _ => none
def mergeD (es : List (D × D)) (kvs : List (Key × D)) : List (D × D) := kvs.foldl (fun acc kv => dictPut acc kv.1 kv.2) es
inductive RepPs (K : PySem.W.Frag) (G : Hp) : List (Key × V) → List (Key × D) → Prop
  | nil : RepPs K G [] []
  | cons {k : Key} {v : V} {d : D} {r : List (Key × V)} {t : List (Key × D)} : Rep K G v d → RepPs K G r t → RepPs K G ((k, v) :: r) ((k, d) :: t)
theorem RepPs.merge {G : Hp} : ∀ {kvs : List (Key × V)} {ps : List (Key × D)} {acc : List (Key × V)} {es : List (D × D)}, RepPs K G kvs ps → RepKV K G acc es → RepKV K G (mergeK acc kvs) (mergeD es ps)
  | _, _, _, _, .nil, r => r
  | _, _, _, _, .cons (k := k) (v := v) (d := d) (r := rr) (t := tt) h t, r => by
    show RepKV K G (mergeK (mergeK _ [(k, v)]) rr) (mergeD (dictPut _ k d) tt)
    exact RepPs.merge t (by rename_i acc es; exact (r.put k h : RepKV K G (putK acc k v) (dictPut es k d)))
theorem pairs_reps {G H : Hp} (s : Same G H) : ∀ {xs : List V} {ds : List D} {ps : List (Key × D)}, Reps K G xs ds → pairsOf ds = some ps → ∃ (as : List Addr) (kvs : List (Key × V)), xs = as.map V.ref ∧ RepPs K G kvs ps ∧ Paired (fun p kv => SqT K H p [kV kv.1, kv.2]) as kvs
  | _, _, _, .nil, h => by cases h; exact ⟨[], [], rfl, .nil, .nil⟩
  | _, _, ps, .cons (d := d) h t, e => by
    cases d <;> first | (cases e; done) | skip
    rename_i l
    match l, h, e with
    | [kd, vd], h, e =>
      obtain ⟨k, h1, h2⟩ := Option.bind_eq_some_iff.mp e
      obtain ⟨t', h3, h4⟩ := Option.map_eq_some_iff.mp h2
      subst h4
      cases h with
      | tup hg hr =>
        cases hr with
        | cons r1 r2 =>
          cases r2 with
          | cons r2 r3 =>
            cases r3
            have e1 := keyV (H := H) (.inl r1) h1
            subst e1
            obtain ⟨as, kvs, w1, w2, w3⟩ := pairs_reps s t h3
            exact ⟨_ :: as, (k, _) :: kvs, by rw [w1]; rfl, .cons r2 w2, .cons (seqT s hg.sq) w3⟩
def rDictOf (K : PySem.W.Frag) : List V → Hp → VK → Prop := fun xs H Q => (∃ a kvs, xs = [V.ref a] ∧ Rd H a (.dK kvs) ∧ ∀ p, H p = none → Q (.ref p) (upd H p (.dK kvs))) ∨
  (∃ (a : Addr) (ps : List Addr) (kvs : List (Key × V)), xs = [V.ref a] ∧ (SqL K H a (ps.map V.ref) ∨ TupG K H a (ps.map V.ref)) ∧ Paired (fun p kv => SqT K H p [kV kv.1, kv.2]) ps kvs ∧ ∀ p, H p = none → Q (.ref p) (upd H p (.dK (mergeK [] kvs))))
theorem cr_dictOf (hc : X.calm = true) : CallR X (.type "dict") (rDictOf X.K) := by
  intro pins s σ H xs us Q I r h
  rcases h with ⟨a, kvs, ex, h, q⟩ | ⟨a, ps, kvs, ex, h | h, hp, q⟩
  · subst ex
    obtain ⟨u, rfl, rx⟩ := Vals.one r
    cases rx
    exact d_copyOf I h fun p s' hn I' => ⟨.ref p, _, I', rfl, q p hn⟩
  · exact call_dictP hc pins s σ H xs us Q I r ⟨a, ps, kvs, ex, h, hp, q⟩
  · subst ex
    obtain ⟨u, rfl, rx⟩ := Vals.one r
    cases rx
    obtain ⟨its, rv, pl, hz⟩ := I.tuple h.sq
    have ei := refs_at rv
    rw [List.length_map] at hz
    obtain ⟨prs, rel, hl, hpr⟩ := pairs_of I hp
    -- the tuple's object has no dict of its own
    have hseq : PlainSeq "tuple" s.heap a its.toArray := by
      obtain ⟨o, ho, hcls, n, hd⟩ := pl
      refine ⟨o, n, ho, hcls, ?_, hd⟩
      rcases h with ⟨o', h1, h2⟩ | ⟨o', its', n', h1, h2, h3, h4⟩
      · obtain ⟨e1, _⟩ := I.hok a _ h1
        rw [ho] at e1
        cases e1
        exact h2
      · have e1 := I.kIn a o' h1
        rw [ho] at e1
        cases e1
        exact h3
    have hU : ∀ j : Nat, ∃ u : Value, ∀ q' : Key × Value, prs[j]? = some q' → ∃ b : Addr, ps[j]? = some b ∧ PyProof.Rows.IsTup s.heap b #[u, q'.2] ∧ keyIs q'.1 u = true := by
      intro j
      cases e : (prs[j]? : Option (Key × Value)) with
      | none => exact ⟨.none, fun _ z => by cases z⟩
      | some q' =>
        obtain ⟨b, u, e1, e2, e3⟩ := hpr j q' e
        exact ⟨u, fun q2 z => by cases z; exact ⟨b, e1, e2, e3⟩⟩
    have hU2 := fun j => (hU j).choose_spec
    refine PySem.call_dict_pairs (knd := mixKind X.prog X.w) (kvs := prs) (PairArg.tuple a its.toArray (fun j => ps.getD j 0) (prs.mapIdx fun j q => ((hU j).choose, q.2))) (I.ok.hd hc) ⟨hseq, ?_, fun j kk v e => ?_⟩ ⟨?_, fun j kk v e => ?_⟩ ?_ fun h' tk hd' kp => ?_
    · rw [ei]; simp [hl]
    · rw [List.getElem?_mapIdx] at e
      obtain ⟨q', e1, e2⟩ := Option.map_eq_some_iff.mp e
      cases e2
      obtain ⟨b, w1, w2, w3⟩ := hU2 j q' e1
      refine ⟨?_, .inl ?_⟩
      · rw [ei]; simp [w1]
      · show s.heap.IsTuple (ps.getD j 0) _
        rw [show ps.getD j 0 = b by rw [List.getD_eq_getElem?_getD, w1]; rfl]
        exact w2
    · simp
    · have e' : (prs.mapIdx fun j q => ((hU j).choose, q.2))[j]? = some (kk, v) := e
      rw [List.getElem?_mapIdx] at e'
      obtain ⟨q', e1, e2⟩ := Option.map_eq_some_iff.mp e'
      cases e2
      obtain ⟨b, w1, w2, w3⟩ := hU2 j q' e1
      exact ⟨q'.1, e1, w3⟩
    · simp [hl]; exact hz
    · have hm : (s.heap.objs.size == sysModules) = false := beq_eq_false_iff_ne.mpr (Nat.ne_of_gt I.big)
      have hlen : (mergeK [] kvs).length ≤ sizeLine := by
        refine Nat.le_trans (length_mergeK kvs []) ?_
        rw [List.length_nil, Nat.zero_add, rel.length, hl]
        exact hz
      exact ⟨.ref s.heap.objs.size, upd H s.heap.objs.size (.dK (mergeK [] kvs)), I.laid (t' := tk) (fun b o e => kp b o (by simp) e) (Nat.le_refl _) (show ObjOk X.prog X.w _ _ _ (.dK (mergeK [] kvs)) from ⟨hlen, hm, merged [] prs, KV.merge rel .nil, hd'⟩), rfl, q _ (I.hok.fresh (Nat.le_refl _))⟩
def dDict : List D → Option (D × Bool)
  | [.dict es] => some (.dict es, true)
  | [.list ds] => (pairsOf ds).map fun ps => (.dict (mergeD [] ps), true)
  | [.tuple ds] => (pairsOf ds).map fun ps => (.dict (mergeD [] ps), true)
  | _ => none
theorem on_dict : OpN K (rDictOf K) dDict := fun vs ds z b G H Q s u hg k => by
  unfold dDict at hg
  split at hg
  · cases hg
    obtain ⟨v, rfl, u0⟩ := u.one
    obtain ⟨a, kvs, rfl, h, r⟩ := u0.dict s
    exact .inl ⟨a, kvs, rfl, h, fun p hp => k _ _ _ (New.own s hp) (Fresh.new s hp (.dK r))⟩
  · obtain ⟨ps, h1, h2⟩ := Option.map_eq_some_iff.mp hg
    cases h2
    obtain ⟨v, rfl, u0⟩ := u.one
    obtain ⟨a, xs, rfl, h, r⟩ := u0.list s
    obtain ⟨as, kvs, rfl, w2, w3⟩ := pairs_reps s r h1
    exact .inr ⟨a, as, kvs, rfl, .inl h, w3, fun p hp => k _ _ _ (New.own s hp) (Fresh.new s hp (.dK (w2.merge .nil)))⟩
  · obtain ⟨ps, h1, h2⟩ := Option.map_eq_some_iff.mp hg
    cases h2
    obtain ⟨v, rfl, u0⟩ := u.one
    obtain ⟨a, xs, rfl, h, r⟩ := u0.tupG
    obtain ⟨as, kvs, rfl, w2, w3⟩ := pairs_reps s r h1
    exact .inr ⟨a, as, kvs, rfl, .inr (h.mono s), w3, fun p hp => k _ _ _ (New.own s hp) (Fresh.new s hp (.dK (w2.merge .nil)))⟩
  · cases hg
end
end Fx
/-! Fx9: methods that write, stores into cells, several names at once, global constants. -/
namespace Fx
open PySem PySem.Spec L2
section
variable {K : PySem.W.Frag} {X : Cx} {a b e o : Expr} {es : List Expr} {pos p apos cpos : Pos}
theorem ext_upd {G H : Hp} {l : Addr} {u : HO} (hl : H l ≠ none) : Ext (fun x => x = l) G H G (upd H l u) := ⟨Same.refl _, fun b o h n => by rw [upd_ne n]; exact h, fun _ _ _ _ g => g, fun b h => by
  by_cases hb : b = l
  · rw [hb, upd_same] at h
    cases h
  · rwa [upd_ne hb] at h⟩
theorem same_upd' {G H : Hp} {l : Addr} {u : HO} (s : Same G H) (g : G l = none) : Same G (upd H l u) := fun b o e => by
  have hb : b ≠ l := fun z => by rw [z, g] at e; cases e
  rw [upd_ne hb]
  exact s b o e
/-! ### a method that writes its object, that a slot owns -/
def OpM (K : PySem.W.Frag) (r : V → List V → Hp → VK → Prop) (g : D → List D → Option (D × Bool × D)) : Prop :=
  ∀ (l : Addr) (o : HO) (d : D) (xs : List V) (ds : List D) (z : D) (b : Bool) (d' : D) (G H : Hp) (Q : VK), Same G H → G l = none → H l = some o → RepO K G o d → Reps K G xs ds → g d ds = some (z, b, d') →
    (∀ v G' H' o', Ext (fun x => x = l) G H G' H' → Same G' H' → G' l = none → H' l = some o' → RepO K G' o' d' → Res K (fun x => x = l) H (fun x => x = l) G' H' v z b → Q v H') → r (.ref l) xs H Q
/-- what a slot must hold -/
structure KindO (X : Cx) (T : String) (c : D → Bool) where
  ty : V → Hp → Prop
  ok : TyOk X T ty
  at_ : ∀ {G H : Hp} {l : Addr} {o : HO} {d : D}, Same G H → H l = some o → RepO X.K G o d → c d = true → ty (.ref l) H
  use : ∀ {G H : Hp} {v : V} {d : D}, Same G H → Use X.K G H v d → c d = true → ty v H
def isLst : D → Bool
  | .list _ => true
  | _ => false
def isTup : D → Bool
  | .tuple _ => true
  | _ => false
def isDct : D → Bool
  | .dict _ => true
  | _ => false
def isTxt : D → Bool
  | .str _ => true
  | _ => false
def kindL (X : Cx) : KindO X "list" isLst where
  ty := fun x H => ∃ a xs, x = .ref a ∧ SqL X.K H a xs
  ok := by
    intro pins σ H s x v I r ⟨a, xs, e, h⟩
    subst e
    obtain rfl : v = Value.ref a := r
    obtain ⟨its, rv, ⟨o, n, ho, hc, hd, hh⟩, hz⟩ := I.list h
    exact ⟨⟨o, ho, hc⟩, fun b e => by cases e; exact ⟨o, ho, hd⟩⟩
  at_ := by
    intro G H l o d s h r c
    cases r with
    | lst q => exact ⟨l, _, rfl, .inl (.inl h)⟩
    | dK q => cases c
  use := by
    intro G H v d s u c
    cases d <;> first | (cases c; done) | skip
    obtain ⟨a, xs, rfl, h, _⟩ := u.list s
    exact ⟨a, xs, rfl, h⟩
def kindD (X : Cx) : KindO X "dict" isDct where
  ty := fun x H => ∃ a, x = .ref a ∧ IsD H a
  ok := by
    intro pins σ H s x v I r ⟨a, e, h⟩
    subst e
    obtain rfl : v = Value.ref a := r
    obtain ⟨t1, t2, _⟩ := isD_at I h
    exact ⟨t1, t2⟩
  at_ := by
    intro G H l o d s h r c
    cases r with
    | lst q => cases c
    | dK q => exact ⟨l, rfl, .inl ⟨_, .inl h⟩⟩
  use := by
    intro G H v d s u c
    cases d <;> first | (cases c; done) | skip
    obtain ⟨a, kvs, rfl, h, _⟩ := u.dict s
    exact ⟨a, rfl, .inl ⟨kvs, h⟩⟩
def kindS (X : Cx) : KindO X "str" isTxt where
  ty := fun x H => ∃ z, x = .str z
  ok := by
    intro pins σ H s x v I r ⟨z, e⟩
    subst e
    obtain ⟨t, rfl⟩ := r
    exact ⟨rfl, fun b e => by cases e⟩
  at_ := by
    intro G H l o d s h r c
    cases r <;> cases c
  use := by
    intro G H v d s u c
    cases d <;> first | (cases c; done) | skip
    exact ⟨_, u.str⟩
def fMut (i : Nat) (c : D → Bool) (l : Lv) (g : D → List D → Option (D × Bool × D)) : Ev := fun en => if isOwn en i = true then (peek en i).bind fun d0 => if c d0 = true then (l en).bind fun x => match x.2[i]? with
  | some (some (d, f)) => if f = .sh then none else (g d x.1).map fun z => (z.1, z.2.1, x.2.set i (some (z.2.2, f)))
  | _ => none
  else none else none
theorem fe_mut {i : Nat} {T id : String} {c : D → Bool} {name : Str} {l : Lv} {g : D → List D → Option (D × Bool × D)} {r : V → List V → Hp → VK → Prop} (kd : KindO X T c) (o : OpM X.K r g) (pa : PlainAttrs T) (slot : Slot T name id) (hty : typeOf (.builtin id) = pure (.type "method_descriptor")) (hm : MtR X id r) (ho : PE X a (tVar i)) (ha : PA X (e :: es) (FL X.K l))
    (hbase : attributeBase a name X.env (eval a X.env) = eval a X.env := by rfl)
    (hfew : ((backTo cpos (starEach (e :: es) X.env)).all (fun x => !x.1) && (backToKw cpos (keywordEach [] X.env)).all (fun x => x.1.isSome)
      && decide ((e :: es).length + ([] : List Keyword).length + (if ([] : List Keyword).isEmpty then 0 else 1) < 30)) = true := by rfl)
    (hline : (apos.endLine == cpos.line) = true := by rfl) (hs : starEach (e :: es) X.env = (false, eval e X.env) :: starEach es X.env := by rfl) (hplain : (backTo cpos (starEach es X.env)).any (·.1) = false := by rfl) :
    PE X (.Call (.Attribute a name apos) (e :: es) [] cpos) (FE X.K (fMut i c l g)) :=
  pe_imp (pe_mG kd.ok pa slot hty hm ho ha hbase hfew hline hs hplain) fun σ H Q ⟨G, en, d, b, en', S, e1, k⟩ => by
    obtain ⟨h0, e1⟩ := ite_some e1
    obtain ⟨d0, hp, e1⟩ := Option.bind_eq_some_iff.mp e1
    obtain ⟨hc, e1⟩ := ite_some e1
    obtain ⟨⟨ds, en1⟩, p1, e2⟩ := Option.bind_eq_some_iff.mp e1
    obtain ⟨dw, fl, q1, e3⟩ := getSlot e2
    obtain ⟨hf, e4⟩ := ite_none e3
    obtain ⟨⟨z, b', dw'⟩, p5, e6⟩ := Option.map_eq_some_iff.mp e4
    cases e6
    obtain ⟨d1, f0, h1, h2⟩ := isOwn_of h0
    obtain ⟨f1, h3⟩ := peek_some hp
    rw [h1] at h3
    cases h3
    obtain ⟨a, o0, q2, _, q3, q4⟩ := S.own i _ f0 h1 h2
    refine ⟨_, q2, kd.at_ S.sub q3 q4 hc, G, en, ds, en1, S, p1, fun vs G1 H1 T r => ?_⟩
    obtain ⟨a', o1, s1, s2, s3, s4⟩ := T.sr.own i dw fl q1 hf
    rw [q2] at s1
    cases s1
    refine o a o1 dw vs ds z b' dw' G1 H1 Q T.sr.sub s2 s3 s4 r p5 fun v G' H' o' E sub g h ro R => ?_
    have W := SR.write T.sr q1 hf q2 E sub g h ro
    refine k v G' H' (T.trans W) ?_
    cases b' with
    | false => exact R
    | true =>
      obtain ⟨c, u, e, w1, w2, w3, w4, w5⟩ := R
      have hn : H1 c = none := w1.resolve_right w2
      refine ⟨c, u, e, .inl (T.ext.t c hn), fun q => ?_, w3, w4, w5⟩
      obtain ⟨y, e7, _⟩ := T.sr.there (W.own c q)
      rw [hn] at e7
      cases e7
theorem fe_mut0 {i : Nat} {T id : String} {c : D → Bool} {name : Str} {g : D → List D → Option (D × Bool × D)} {r : V → List V → Hp → VK → Prop} (kd : KindO X T c) (o : OpM X.K r g) (pa : PlainAttrs T) (slot : Slot T name id) (hty : typeOf (.builtin id) = pure (.type "method_descriptor")) (hm : MtR X id r) (ho : PE X a (tVar i))
    (hbase : attributeBase a name X.env (eval a X.env) = eval a X.env := by rfl) (hline : (apos.endLine == cpos.line) = true := by rfl) :
    PE X (.Call (.Attribute a name apos) [] [] cpos) (FE X.K (fMut i c lNil g)) :=
  pe_imp (pe_mG0 kd.ok pa slot hty hm ho hbase hline) fun σ H Q ⟨G, en, d, b, en', S, e1, k⟩ => by
    obtain ⟨h0, e1⟩ := ite_some e1
    obtain ⟨d0, hp, e1⟩ := Option.bind_eq_some_iff.mp e1
    obtain ⟨hc, e1⟩ := ite_some e1
    obtain ⟨⟨ds, en1⟩, p1, e2⟩ := Option.bind_eq_some_iff.mp e1
    cases p1
    obtain ⟨dw, fl, q1, e3⟩ := getSlot e2
    obtain ⟨hf, e4⟩ := ite_none e3
    obtain ⟨⟨z, b', dw'⟩, p5, e6⟩ := Option.map_eq_some_iff.mp e4
    cases e6
    obtain ⟨f1, h3⟩ := peek_some hp
    rw [q1] at h3
    cases h3
    obtain ⟨a, o0, q2, s2, q3, q4⟩ := S.own i _ _ q1 hf
    refine ⟨_, q2, kd.at_ S.sub q3 q4 hc, ?_⟩
    refine o a o0 _ [] [] z b' dw' G H Q S.sub s2 q3 q4 .nil p5 fun v G' H' o' E sub g h ro R => ?_
    have W := SR.write S q1 hf q2 E sub g h ro
    refine k v G' H' W ?_
    cases b' with
    | false => exact R
    | true =>
      obtain ⟨c, u, e, w1, w2, w3, w4, w5⟩ := R
      have hn : H c = none := w1.resolve_right w2
      refine ⟨c, u, e, .inl hn, fun q => ?_, w3, w4, w5⟩
      obtain ⟨y, e7, _⟩ := S.there (W.own c q)
      rw [hn] at e7
      cases e7
theorem opM_upd {l : Addr} {o' : HO} {d' z : D} {v : V} {G H : Hp} {o : HO} {Q : VK} (s : Same G H) (g : G l = none) (h : H l = some o) (r : RepO K G o' d') (rz : Rep K G v z)
    (k : ∀ v G' H' o', Ext (fun x => x = l) G H G' H' → Same G' H' → G' l = none → H' l = some o' → RepO K G' o' d' → Res K (fun x => x = l) H (fun x => x = l) G' H' v z false → Q v H') : Q v (upd H l o') :=
  k v G (upd H l o') o' (ext_upd (by rw [h]; exact fun z => by cases z)) (same_upd' s g) g upd_same r rz
def mAppend : D → List D → Option (D × Bool × D)
  | .list ds, [x] => if ds.length < sizeLine then some (.none, false, .list (ds ++ [x])) else none
  | _, _ => none
theorem om_append : OpM K rAppend mAppend := fun l o d xs ds z b d' G H Q s g h r rs e k => by
  unfold mAppend at e
  split at e
  · obtain ⟨hl, e⟩ := ite_some e
    cases e
    cases r with
    | lst q =>
      cases rs with
      | cons r1 r2 =>
        cases r2
        exact ⟨l, _, _, rfl, rfl, h, by rw [q.length]; exact hl, opM_upd s g h (.lst (q.append (.cons r1 .nil))) .non k⟩
  · cases e
def mExtend : D → List D → Option (D × Bool × D)
  | .list ds, [.list es] => if ds.length + es.length ≤ sizeLine then some (.none, false, .list (ds ++ es)) else none
  | _, _ => none
theorem Reps.last {G : Hp} {xs : List V} {ds : List D} {d : D} (r : Reps K G xs ds) (h : ds.getLast? = some d) : ∃ v, xs[xs.length - 1]? = some v ∧ Rep K G v d := by
  rw [List.getLast?_eq_getElem?] at h
  rw [r.length]
  exact r.get' h
theorem Reps.dropLast {G : Hp} {xs : List V} {ds : List D} (r : Reps K G xs ds) : Reps K G xs.dropLast ds.dropLast := by
  rw [List.dropLast_eq_take, List.dropLast_eq_take, r.length]
  exact r.take _
def mPop : D → List D → Option (D × Bool × D)
  | .list ds, [] => ds.getLast?.map fun x => (x, false, .list ds.dropLast)
  | _, _ => none
theorem om_pop : OpM K rPop mPop := fun l o d xs ds z b d' G H Q s g h r rs e k => by
  unfold mPop at e
  split at e
  · obtain ⟨x, e1, e2⟩ := Option.map_eq_some_iff.mp e
    cases e2
    cases r with
    | lst q =>
      cases rs
      obtain ⟨v, w1, w2⟩ := q.last e1
      exact ⟨l, _, v, rfl, rfl, h, w1, opM_upd s g h (.lst q.dropLast) w2 k⟩
  · cases e
def mPopAt : D → List D → Option (D × Bool × D)
  | .list ds, [.int i] => if -(2 ^ 63) ≤ i ∧ i < 2 ^ 63 then (seqIndex? i ds.length).bind fun k => (ds[k]?).map fun x => (x, false, .list (ds.eraseIdx k)) else none
  | _, _ => none
theorem om_popAt : OpM K rPopAt mPopAt := fun l o d xs ds z b d' G H Q s g h r rs e k => by
  unfold mPopAt at e
  split at e
  · obtain ⟨⟨b1, b2⟩, e⟩ := ite_some e
    obtain ⟨j, e1, e2⟩ := Option.bind_eq_some_iff.mp e
    obtain ⟨x, e3, e4⟩ := Option.map_eq_some_iff.mp e2
    cases e4
    cases r with
    | lst q =>
      cases rs with
      | cons r1 r2 =>
        cases r2
        cases r1
        obtain ⟨v, w1, w2⟩ := q.get' e3
        exact ⟨l, _, _, j, v, rfl, rfl, h, b1, b2, by rw [q.length]; exact e1, w1, opM_upd s g h (.lst (q.eraseIdx j)) w2 k⟩
  · cases e
/-! ### a method that reads -/
def OpMR (K : PySem.W.Frag) (r : V → List V → Hp → VK → Prop) (g : D → List D → Option (D × Bool)) : Prop :=
  ∀ (x : V) (d : D) (xs : List V) (ds : List D) (z : D) (b : Bool) (G H : Hp) (Q : VK), Same G H → Use K G H x d → Uses K G H xs ds → g d ds = some (z, b) → (∀ v G' H', New G H G' H' → Fresh K H G' H' v z b → Q v H') → r x xs H Q
def fMeth (p : Ov) (c : D → Bool) (l : Av) (g : D → List D → Option (D × Bool)) : Ev := fun en => (p en).bind fun x => (x.1.late x.2).bind fun d0 => if c d0 = true then (l x.2).bind fun y => (x.1.late y.2).bind fun d => (lates y.2 y.1).bind fun ds => (g d ds).map fun z => (z.1, z.2, y.2) else none
theorem fe_meth {T id : String} {c : D → Bool} {name : Str} {p : Ov} {l : Av} {g : D → List D → Option (D × Bool)} {r : V → List V → Hp → VK → Prop} (kd : KindO X T c) (o : OpMR X.K r g) (pa : PlainAttrs T) (slot : Slot T name id) (hty : typeOf (.builtin id) = pure (.type "method_descriptor")) (hm : MtR X id r) (ho : PE X a (FO X.K p)) (ha : PA X (e :: es) (FA X.K l))
    (hbase : attributeBase a name X.env (eval a X.env) = eval a X.env := by rfl)
    (hfew : ((backTo cpos (starEach (e :: es) X.env)).all (fun x => !x.1) && (backToKw cpos (keywordEach [] X.env)).all (fun x => x.1.isSome)
      && decide ((e :: es).length + ([] : List Keyword).length + (if ([] : List Keyword).isEmpty then 0 else 1) < 30)) = true := by rfl)
    (hline : (apos.endLine == cpos.line) = true := by rfl) (hs : starEach (e :: es) X.env = (false, eval e X.env) :: starEach es X.env := by rfl) (hplain : (backTo cpos (starEach es X.env)).any (·.1) = false := by rfl) :
    PE X (.Call (.Attribute a name apos) (e :: es) [] cpos) (FE X.K (fMeth p c l g)) :=
  pe_imp (pe_mG kd.ok pa slot hty hm ho ha hbase hfew hline hs hplain) fun σ H Q ⟨G, en, d, b, en', S, e1, k⟩ => by
    obtain ⟨⟨x, en1⟩, p1, e1⟩ := Option.bind_eq_some_iff.mp e1
    obtain ⟨d0, hp, e1⟩ := Option.bind_eq_some_iff.mp e1
    obtain ⟨hc, e1⟩ := ite_some e1
    obtain ⟨⟨y, en2⟩, p2, e1⟩ := Option.bind_eq_some_iff.mp e1
    obtain ⟨d2, p3, e1⟩ := Option.bind_eq_some_iff.mp e1
    obtain ⟨ds, p4, e1⟩ := Option.bind_eq_some_iff.mp e1
    obtain ⟨⟨z', b'⟩, p5, e6⟩ := Option.map_eq_some_iff.mp e1
    cases e6
    refine ⟨G, en, x, en1, S, p1, fun v G1 H1 T1 r1 => ⟨kd.use T1.sr.sub (r1.use T1.sr hp) hc, G1, en1, y, en2, T1.sr, p2, fun vs G2 H2 T2 r2 => ?_⟩⟩
    exact o v d2 vs ds _ _ G2 H2 Q T2.sr.sub ((r1.step T2).use T2.sr p3) (r2.uses T2.sr p4) p5 fun v G' H' N F => k v G' H' ((T1.trans T2).trans (N.step T2.sr)) (F.res' (T1.trans T2))
/-! ### stores into cells -/
def rSetA : V → V → V → Hp → (Hp → Prop) → Prop := fun o i v H Q => rSetL o i v H Q ∨ ∃ a H', o = .ref a ∧ DPut H a i v H' ∧ Q H'
theorem set_A (hu : X.A.units + 1 < cLine) : PSet X rSetA := by
  intro pins s σ H o i v ov iv u Q I ro ri rv h
  rcases h with h | ⟨a, H', e, g, q⟩
  · exact set_list pins s σ H o i v ov iv u Q I ro ri rv h
  · subst e
    obtain rfl : ov = Value.ref a := ro
    exact d_setItem hu I g ri rv fun s' I' => ⟨H', I', q⟩
def dSetA : D → D → D → Option D
  | .list ds, .int k, d => (ixN ds.length k).map fun j => .list (ds.set j d)
  | .dict es, k, d => (keyOf k).bind fun k => if es.length < sizeLine then some (.dict (dictPut es k d)) else none
  | _, _, _ => none
theorem setA_of {G H : Hp} {l : Addr} {o : HO} {d k x d' : D} {vk v : V} {Q : Hp → Prop} (s : Same G H) (g : G l = none) (h : H l = some o) (r : RepO K G o d) (rk : Rep K G vk k) (rx : Rep K G v x) (e : dSetA d k x = some d') (q : ∀ o', RepO K G o' d' → Q (upd H l o')) : rSetA (.ref l) vk v H Q := by
  unfold dSetA at e
  split at e
  · obtain ⟨j, e1, e2⟩ := Option.map_eq_some_iff.mp e
    cases e2
    cases r with
    | lst r =>
      cases rk
      exact .inl ⟨l, _, _, j, rfl, rfl, h, by rw [r.length]; exact e1, q _ (.lst (r.set rx j))⟩
  · obtain ⟨k', e1, e2⟩ := Option.bind_eq_some_iff.mp e
    obtain ⟨hl, e3⟩ := ite_some e2
    cases e3
    cases r with
    | dK r =>
      have ek := keyV (H := H) (.inl rk) e1
      subst ek
      exact .inr ⟨l, _, rfl, DPut.k h (by rw [r.length]; exact hl), q _ (.dK (r.put k' rx))⟩
  · cases e
def gSubD (i : Nat) (f : Vv) : Gv := fun d en => if isOwn en i = true then (f en).bind fun x => match x.2[i]? with
  | some (some (dw, fl)) => if fl = .sh then none else (dSetA dw x.1 d).map fun z => x.2.set i (some (z, fl))
  | _ => none
  else none
theorem fg_sub {i : Nat} {f : Vv} (hu : X.A.units + 1 < cLine) (ho : PE X o (tVar i)) (hi : PE X e (FV X.K f)) (ha : ∀ v, assign (.Subscript o e pos) X.env v = (do
      let ov ← holding [v] (eval o X.env)
      let iv ← holding [v, ov] (eval e X.env)
      standAt pos
      holding [v, ov, iv] (setItem ov iv v)
      release [v, ov, iv] []) := by intro _; rfl) : PG X (.Subscript o e pos) (FG Rep X.K [] (gSubD i f)) :=
  pg_imp (pg_sub ho hi (set_A hu) ha) fun v σ H Q ⟨G, en, d, en', S, r, e1, k⟩ => by
    obtain ⟨h0, e1⟩ := ite_some e1
    obtain ⟨⟨x, en1⟩, p1, e2⟩ := Option.bind_eq_some_iff.mp e1
    obtain ⟨dw, fl, q1, e3⟩ := getSlot e2
    obtain ⟨hf, e4⟩ := ite_none e3
    obtain ⟨dw', p5, e6⟩ := Option.map_eq_some_iff.mp e4
    subst e6
    obtain ⟨d1, f0, h1, h2⟩ := isOwn_of h0
    obtain ⟨a, o0, q2, _, q3, q4⟩ := S.own i _ f0 h1 h2
    refine ⟨_, q2, G, en, x, en1, S, p1, fun vk G1 H1 T rk => ?_⟩
    obtain ⟨a', o1, s1, s2, s3, s4⟩ := T.sr.own i dw fl q1 hf
    rw [q2] at s1
    cases s1
    refine setA_of T.sr.sub s2 s3 s4 rk (r.mono T.ext.g) p5 fun o' ro => ?_
    have W := SR.write T.sr q1 hf q2 (ext_upd (u := o') (by rw [s3]; exact fun z => by cases z)) (same_upd' T.sr.sub s2) s2 upd_same ro
    exact k σ G1 _ (step_g (T.trans W)) ⟨rfl, fun _ _ => rfl⟩
/-- d[k] += e, of ints -/
def dGetA : D → D → Option D
  | .dict es, k => (keyOf k).bind fun k => dictGet es k
  | _, _ => none
def sAugS (i : Nat) (f : Vv) (g : Vv) (h : D → D → Option D) : Sv := fun en => if isOwn en i = true then (f en).bind fun x => (peek x.2 i).bind fun dw => (dGetA dw x.1).bind fun d0 => (g x.2).bind fun y => match y.2[i]? with
  | some (some (dw, fl)) => if fl = .sh then none else (h d0 y.1).bind fun z => (dSetA dw x.1 z).map fun z => (.nx, y.2.set i (some (z, fl)))
  | _ => none
  else none
def dGetR : V → V → Hp → VK → Prop := fun x y H Q => ∃ a v, x = .ref a ∧ DGet H a y (some v) ∧ Q v H
theorem get_D (hu : X.A.units + 1 < cLine) : PGet X dGetR := by
  intro pins s σ H o i ov iv Q I ro ri ⟨a, v, e, g, q⟩
  subst e
  obtain rfl : ov = Value.ref a := ro
  exact d_getItem hu I g ri fun w' s' I' r' => ⟨v, H, I', r', q⟩
def Ip2 (K : PySem.W.Frag) (r : TIp) (g : D → D → Option D) : Prop := ∀ x y d e z G H Q, Rep K G x d → Rep K G y e → g d e = some z → (∀ v, (∀ G, Rep K G v z) → Q v H) → r x y H Q
def zAdd : D → D → Option D
  | .int i, .int j => some (.int (i + j))
  | _, _ => none
def zSub : D → D → Option D
  | .int i, .int j => some (.int (i - j))
  | _, _ => none
theorem i2_add : Ip2 K (ipI fun i j => i + j) zAdd := fun x y d e z G H Q rx ry h k => by
  unfold zAdd at h
  split at h
  · cases h
    cases rx
    cases ry
    exact ⟨_, _, rfl, rfl, k _ fun _ => .int _⟩
  · cases h
theorem i2_sub : Ip2 K (ipI fun i j => i - j) zSub := fun x y d e z G H Q rx ry h k => by
  unfold zSub at h
  split at h
  · cases h
    cases rx
    cases ry
    exact ⟨_, _, rfl, rfl, k _ fun _ => .int _⟩
  · cases h
theorem fs_augS {i : Nat} {f g : Vv} {op : Operator} {ti : TIp} {h : D → D → Option D} {tpos : Pos} (hu : X.A.units + 1 < cLine) (ho : PE X o (tVar i)) (hi : PE X a (FV X.K f)) (he : PE X e (FV X.K g)) (hop : PIp X op ti) (i2 : Ip2 X.K ti h)
    (ha : ∀ ov iv new, augStore a ov iv new = (do holding [new, ov, iv] (setItem ov iv new); release [new, ov, iv] []; pure .next) := by intros; rfl) : PS X (.AugAssign (.Subscript o a tpos) op e pos) (FS X.K (sAugS i f g h)) :=
  ps_imp (ps_augS ho hi (get_D hu) he hop (set_A hu) ha) fun D σ H ⟨G, en, out, en', S, e1, k⟩ => by
    obtain ⟨h0, e1⟩ := ite_some e1
    obtain ⟨⟨x, en1⟩, p1, e1⟩ := Option.bind_eq_some_iff.mp e1
    obtain ⟨dw, p2, e1⟩ := Option.bind_eq_some_iff.mp e1
    obtain ⟨d0, p3, e1⟩ := Option.bind_eq_some_iff.mp e1
    obtain ⟨⟨y, en2⟩, p4, e1⟩ := Option.bind_eq_some_iff.mp e1
    obtain ⟨dw1, fl, q1, e3⟩ := getSlot e1
    obtain ⟨hf, e4⟩ := ite_none e3
    obtain ⟨z, p5, e5⟩ := Option.bind_eq_some_iff.mp e4
    obtain ⟨dw', p6, e6⟩ := Option.map_eq_some_iff.mp e5
    cases e6
    obtain ⟨d1, f0, h1, h2⟩ := isOwn_of h0
    obtain ⟨a, o0, q2, _, q3, q4⟩ := S.own i _ f0 h1 h2
    refine ⟨_, q2, G, en, x, en1, S, p1, fun vk G1 H1 T rk => ?_⟩
    have U : Use X.K G1 H1 (.ref a) dw := HoldR.use (h := .slot i) T.sr q2 p2
    unfold dGetA at p3
    split at p3
    · obtain ⟨kk, w1, w2⟩ := Option.bind_eq_some_iff.mp p3
      obtain ⟨a', kvs, e7, u1, u2⟩ := U.dict T.sr.sub
      cases e7
      have ek := keyV (H := H1) (.inl rk) w1
      subst ek
      obtain ⟨v0, w3, w4⟩ : ∃ v0, valV kvs kk = some v0 ∧ Rep X.K G1 v0 d0 := by
        rcases u2.get kk with ⟨_, w3⟩ | ⟨v0, d3, w3, w5, w4⟩
        · rw [w2] at w3
          cases w3
        · rw [w2] at w5
          cases w5
          exact ⟨v0, w3, w4⟩
      refine ⟨a, v0, rfl, .inl ⟨kvs, kk, u1, rfl, w3.symm⟩, G1, en1, y, en2, T.sr, p4, fun vy G2 H2 T2 ry => ?_⟩
      obtain ⟨a', o1, s1, s2, s3, s4⟩ := T2.sr.own i dw1 fl q1 hf
      rw [q2] at s1
      cases s1
      refine i2 _ _ _ _ _ G2 H2 _ (w4.mono T2.ext.g) ry p5 fun vz rz => ?_
      refine setA_of T2.sr.sub s2 s3 s4 (rk.mono T2.ext.g) (rz _) p6 fun o' ro => ?_
      have W := SR.write T2.sr q1 hf q2 (ext_upd (u := o') (by rw [s3]; exact fun z => by cases z)) (same_upd' T2.sr.sub s2) s2 upd_same ro
      exact k G2 _ σ ((T.trans T2).trans W).s
    · cases p3
/-- x += e, of ints -/
def sAugN (i : Nat) (f : Vv) (h : D → D → Option D) : Sv := fun en => match en[i]? with
  | some (some (d0, .sh)) => (f en).bind fun x => (h d0 x.1).bind fun z => if free1 x.2 i = true then some (.nx, x.2.set i (some (z, .sh))) else none
  | _ => none
theorem fs_aug {i : Nat} {x : Str} {f : Vv} {op : Operator} {ti : TIp} {h : D → D → Option D} {pos' : Pos} (hN : X.N.Nodup) (he : PE X e (FV X.K f)) (hop : PIp X op ti) (i2 : Ip2 X.K ti h) (hi : X.N[i]? = some x := by rfl) (hx : Loc X.env.scope x := by first | exact .inl rfl | exact .inr rfl)
    (hf : X.fn x = true ∨ X.env.scope.names.lookup x = some .local := by first | exact .inl rfl | exact .inr rfl | assumption) : PS X (.AugAssign (.Name x pos') op e pos) (FS X.K (sAugN i f h)) :=
  ps_imp (ps_aug hN hi hx he hop hf) fun D σ H ⟨G, en, out, en', S, e1, k⟩ => by
    unfold sAugN at e1
    split at e1
    · rename_i d0 q0
      obtain ⟨⟨y, en1⟩, p1, e1⟩ := Option.bind_eq_some_iff.mp e1
      obtain ⟨z, p2, e1⟩ := Option.bind_eq_some_iff.mp e1
      obtain ⟨hl, e1⟩ := ite_some e1
      cases e1
      obtain ⟨v, s1, s2⟩ := S.shd i d0 q0
      refine ⟨v, s1, G, en, y, en1, S, p1, fun vy G1 H1 T ry => ?_⟩
      refine i2 _ _ _ _ _ G1 H1 _ (s2.mono T.ext.g) ry p2 fun vz rz => ?_
      exact k G1 H1 _ (T.s.store (b := false) hl (rz _))
    · cases e1
/-! ### several names at once -/
abbrev Mv := En → Option (List (D × Bool) × En)
def frs : List V → List (D × Bool) → Addr → Prop
  | v :: vs, (_, b) :: ds, x => (b = true ∧ v = .ref x) ∨ frs vs ds x
  | _, _, _ => False
inductive ResL (K : PySem.W.Frag) (O : Addr → Prop) (H : Hp) (O' : Addr → Prop) (G' H' : Hp) : List V → List (D × Bool) → Prop
  | nil : ResL K O H O' G' H' [] []
  | cons {v : V} {d : D} {b : Bool} {vs : List V} {ds : List (D × Bool)} : Res K O H (fun x => O' x ∨ frs vs ds x) G' H' v d b → ResL K O H O' G' H' vs ds → ResL K O H O' G' H' (v :: vs) ((d, b) :: ds)
def FM (K : PySem.W.Frag) (f : Mv) : TA := fun σ H Q => ∃ G en ds en', SR K G H en σ ∧ f en = some (ds, en') ∧ ∀ vs G' H', Step K en en' σ G H G' H' → ResL K (OwnA en σ) H (OwnA en' σ) G' H' vs ds → Q vs H'
def mNil : Mv := fun en => some ([], en)
def mCons (p : Ev) (r : Mv) : Mv := fun en => (p en).bind fun x => (r x.2.2).map fun y => ((x.1, x.2.1) :: y.1, y.2)
theorem fm_nil : PA X [] (FM X.K mNil) := pa_imp pa_nil fun σ H Q ⟨G, en, ds, en', S, e1, k⟩ => by
  cases e1
  exact k [] G H (Step.refl S) .nil
theorem res_step {G H G1 H1 G2 H2 : Hp} {en en1 en2 : En} {σ : St} {v : V} {d : D} {b : Bool} {P : Addr → Prop} (T : Step K en en1 σ G H G1 H1) (U : Step K en1 en2 σ G1 H1 G2 H2) (r : Res K (OwnA en σ) H (OwnA en1 σ) G1 H1 v d b) (hP : b = true → ∀ a, v = .ref a → ¬ P a) : Res K (OwnA en σ) H (fun x => OwnA en2 σ x ∨ P x) G2 H2 v d b := by
  cases b with
  | false => exact Rep.mono U.ext.g r
  | true =>
    obtain ⟨a, o, e, h1, h2, h3, h4, h5⟩ := r
    exact ⟨a, o, e, h1, fun z => z.elim (fun z => h2 (U.own a z)) (hP rfl a e), U.ext.h a o h3 h2, U.ext.n a o h3 h2 h4, h5.mono U.ext.g⟩
theorem frs_new {O : Addr → Prop} {H : Hp} {O' : Addr → Prop} {G' H' : Hp} : ∀ {vs : List V} {ds : List (D × Bool)} {x : Addr}, ResL K O H O' G' H' vs ds → frs vs ds x → (H x = none ∨ O x)
  | _, _, _, .nil, h => h.elim
  | _, _, x, .cons r t, h => by
    rcases h with ⟨hb, e⟩ | h
    · subst hb
      obtain ⟨a, o, e', h1, _⟩ := r
      rw [e] at e'
      cases e'
      exact h1
    · exact frs_new t h
theorem resL_from {G H G1 H1 : Hp} {en en1 en2 : En} {σ : St} {G2 H2 : Hp} (T : Step K en en1 σ G H G1 H1) : ∀ {vs : List V} {ds : List (D × Bool)}, ResL K (OwnA en1 σ) H1 (OwnA en2 σ) G2 H2 vs ds → ResL K (OwnA en σ) H (OwnA en2 σ) G2 H2 vs ds
  | _, _, .nil => .nil
  | _, _, .cons (b := b) r t => by
    refine .cons ?_ (resL_from T t)
    cases b with
    | false => exact r
    | true =>
      obtain ⟨a, o, e, q1, q2, q3, q4, q5⟩ := r
      refine ⟨a, o, e, ?_, q2, q3, q4, q5⟩
      rcases q1 with q1 | q1
      · exact .inl (T.ext.t a q1)
      · exact .inr (T.own a q1)
theorem fm_cons {f : Ev} {r : Mv} (h : PE X e (FE X.K f)) (hr : PA X es (FM X.K r)) (hs : starEach (e :: es) X.env = (false, eval e X.env) :: starEach es X.env := by rfl) : PA X (e :: es) (FM X.K (mCons f r)) :=
  pa_imp (pa_cons h hr hs) fun σ H Q ⟨G, en, ds, en', S, e1, k⟩ => by
    obtain ⟨⟨d, b, en1⟩, p1, e2⟩ := Option.bind_eq_some_iff.mp e1
    obtain ⟨⟨ds', en2⟩, p2, e3⟩ := Option.map_eq_some_iff.mp e2
    cases e3
    refine ⟨G, en, d, b, en1, S, p1, fun v G1 H1 T1 r1 => ⟨G1, en1, ds', en2, T1.sr, p2, fun vs G2 H2 T2 r2 => ?_⟩⟩
    refine k _ G2 H2 (T1.trans T2) (.cons (res_step T1 T2 r1 fun hb a ev hf => ?_) (resL_from T1 r2))
    subst hb
    obtain ⟨a', o, e', h1, h2, h3, _⟩ := r1
    rw [ev] at e'
    cases e'
    rcases frs_new r2 hf with z | z
    · rw [z] at h3
      cases h3
    · exact h2 z
def putAll : List Nat → List (D × Bool) → En → Option En
  | [], [], en => some en
  | i :: is, (d, b) :: ds, en => if free1 en i = true then putAll is ds (en.set i (some (d, flag b))) else none
  | _, _, _ => none
def stAll : List Nat → List V → St → St
  | i :: is, v :: vs, σ => stAll is vs (σ.set i (some v))
  | _, _, σ => σ
theorem resL_after {O : Addr → Prop} {H : Hp} {O1 O2 : Addr → Prop} {G' H' : Hp} : ∀ {vs : List V} {ds : List (D × Bool)}, ResL K O H O1 G' H' vs ds → (∀ x, frs vs ds x → O2 x → O1 x) → ResL K O H O2 G' H' vs ds
  | _, _, .nil, _ => .nil
  | _, _, .cons (b := b) r t, k => by
    refine .cons ?_ (resL_after t fun x hx => k x (.inr hx))
    cases b with
    | false => exact r
    | true =>
      obtain ⟨a, o, e, q1, q2, q3, q4, q5⟩ := r
      exact ⟨a, o, e, q1, fun z => q2 (z.elim (fun z => .inl (k a (.inl ⟨rfl, e⟩) z)) .inr), q3, q4, q5⟩
theorem put_all {G0 H0 : Hp} {en0 : En} {σ0 : St} {G H : Hp} : ∀ {is : List Nat} {vs : List V} {ds : List (D × Bool)} {en en' : En} {σ : St}, StepS K en0 σ0 G0 H0 en σ G H → ResL K (OwnA en0 σ0) H0 (OwnA en σ) G H vs ds → putAll is ds en = some en' → StepS K en0 σ0 G0 H0 en' (stAll is vs σ) G H
  | [], _, _, en, en', σ, T, .nil, e => by cases e; exact T
  | [], _, _, en, en', σ, T, .cons _ _, e => by cases e
  | _ :: _, _, _, en, en', σ, T, .nil, e => by cases e
  | i :: is, _, _, en, en', σ, T, .cons (v := v) (d := d) (b := b) (vs := vs) (ds := ds) r t, e => by
    obtain ⟨hl, e2⟩ := ite_some e
    have r0 : Res K (OwnA en0 σ0) H0 (OwnA en σ) G H v d b := by
      cases b with
      | false => exact r
      | true =>
        obtain ⟨a, o, e, q1, q2, q3, q4, q5⟩ := r
        exact ⟨a, o, e, q1, fun z => q2 (.inl z), q3, q4, q5⟩
    refine put_all (is := is) (vs := vs) (ds := ds) (σ := σ.set i (some v)) (StepS.store T hl r0) (resL_after t fun x hx hz => ?_) e2
    cases b with
    | false =>
      obtain ⟨k, d2, g, q1, n, q2⟩ := hz
      rcases set_at q1 with ⟨_, w, _⟩ | ⟨hk, w⟩
      · cases w
        exact absurd rfl n
      · rw [List.getElem?_set_ne (Ne.symm hk)] at q2
        exact ⟨k, d2, g, w, n, q2⟩
    | true =>
      rcases own_store T.sr hz with z | z
      · obtain ⟨a, o, e, q1, q2, _⟩ := r
        rw [e] at z
        cases z
        exact (q2 (.inr hx)).elim
      · exact z
def sParN (is : List Nat) (l : Mv) : Sv := fun en => (l en).bind fun x => (putAll is x.1 x.2).map fun e' => (.nx, e')
theorem resL_len {O : Addr → Prop} {H : Hp} {O1 : Addr → Prop} {G' H' : Hp} : ∀ {vs : List V} {ds : List (D × Bool)}, ResL K O H O1 G' H' vs ds → vs.length = ds.length
  | _, _, .nil => rfl
  | _, _, .cons _ t => by rw [List.length_cons, List.length_cons, resL_len t]
theorem putAll_len : ∀ {is : List Nat} {ds : List (D × Bool)} {en en' : En}, putAll is ds en = some en' → is.length = ds.length
  | [], [], _, _, _ => rfl
  | [], _ :: _, _, _, e => by cases e
  | _ :: _, [], _, _, e => by cases e
  | i :: is, (d, b) :: ds, en, en', e => by
    obtain ⟨hl, e2⟩ := ite_some e
    rw [List.length_cons, List.length_cons, putAll_len e2]
theorem fs_par2 {i j : Nat} {x y : Str} {a b : Expr} {l : Mv} {px py pt : Pos} {kt k2 pt2} (hc : X.calm = true) (hN : X.N.Nodup) (ha : PA X [a, b] (FM X.K l)) (hij : i ≠ j := by decide) (hi : X.N[i]? = some x := by rfl) (hj : X.N[j]? = some y := by rfl)
    (hx : X.env.scope.names.lookup x = some .local := by rfl) (hy : X.env.scope.names.lookup y = some .local := by rfl)
    (hw : swappedStores [.Tuple [.Name x px, .Name y py] kt pt] (.Tuple [a, b] k2 pt2) X.env = pure (some [x, y]) := by rfl)
    (hs : swapsWithSole [.Tuple [.Name x px, .Name y py] kt pt] (.Tuple [a, b] k2 pt2) pos.line X.env = pure false := by rfl) :
    PS X (.Assign [.Tuple [.Name x px, .Name y py] kt pt] (.Tuple [a, b] k2 pt2) pos) (FS X.K (sParN [i, j] l)) :=
  ps_imp (ps_par hc hN hi hj hij hx hy ha hw hs) fun D σ H ⟨G, en, out, en', S, e1, k⟩ => by
    obtain ⟨⟨ds, en1⟩, p1, e2⟩ := Option.bind_eq_some_iff.mp e1
    obtain ⟨en2, p2, e3⟩ := Option.map_eq_some_iff.mp e2
    cases e3
    refine ⟨G, en, ds, en1, S, p1, fun vs G1 H1 T r => ?_⟩
    have hl := (resL_len r).trans (putAll_len p2).symm
    match vs, hl, r with
    | [v, w], _, r => exact ⟨v, w, rfl, k G1 H1 _ (put_all T.s r p2)⟩
theorem fs_par3 {i j m : Nat} {x y z : Str} {a b c : Expr} {l : Mv} {px py pz pt : Pos} {kt k2 pt2} (hc : X.calm = true) (hN : X.N.Nodup) (ha : PA X [a, b, c] (FM X.K l)) (hij : i ≠ j := by decide) (him : i ≠ m := by decide) (hjm : j ≠ m := by decide) (hi : X.N[i]? = some x := by rfl) (hj : X.N[j]? = some y := by rfl) (hm : X.N[m]? = some z := by rfl)
    (hx : X.env.scope.names.lookup x = some .local := by rfl) (hy : X.env.scope.names.lookup y = some .local := by rfl) (hz : X.env.scope.names.lookup z = some .local := by rfl)
    (hw : swappedStores [.Tuple [.Name x px, .Name y py, .Name z pz] kt pt] (.Tuple [a, b, c] k2 pt2) X.env = pure (some [x, y, z]) := by rfl)
    (hs : swapsWithSole [.Tuple [.Name x px, .Name y py, .Name z pz] kt pt] (.Tuple [a, b, c] k2 pt2) pos.line X.env = pure false := by rfl) :
    PS X (.Assign [.Tuple [.Name x px, .Name y py, .Name z pz] kt pt] (.Tuple [a, b, c] k2 pt2) pos) (FS X.K (sParN [i, j, m] l)) :=
  ps_imp (ps_par3 hc hN hi hj hm hij him hjm hx hy hz ha hw hs) fun D σ H ⟨G, en, out, en', S, e1, k⟩ => by
    obtain ⟨⟨ds, en1⟩, p1, e2⟩ := Option.bind_eq_some_iff.mp e1
    obtain ⟨en2, p2, e3⟩ := Option.map_eq_some_iff.mp e2
    cases e3
    refine ⟨G, en, ds, en1, S, p1, fun vs G1 H1 T r => ?_⟩
    have hl := (resL_len r).trans (putAll_len p2).symm
    match vs, hl, r with
    | [v, w, u], _, r => exact ⟨v, w, u, rfl, k G1 H1 _ (put_all T.s r p2)⟩
/-! ### global constants -/
theorem fv_glob {x : Str} {v : V} {u : Value} {d : D} (hm : X.mg x = some u) (r : RelV v u) (h : ∀ G, Rep X.K G v d) (hg : Gl X x := by rfl) (hd : (x == ("__debug__" : Str)) = false := by decide) : PE X (.Name x pos) (FV X.K (fC d)) := fv_c (pe_glob hg hm r hd) h
/-! ### dict displays -/
def FPs (K : PySem.W.Frag) (f : Lv) (t : St → Hp → (List (V × V) → Hp → Prop) → Prop) : Prop := ∀ σ H Q, (∃ G en ds en', SR K G H en σ ∧ f en = some (ds, en') ∧ ∀ ps G' H', Step K en en' σ G H G' H' → Reps K G' (ps.flatMap fun p => [p.1, p.2]) ds → Q ps H') → t σ H Q
theorem fps_nil : FPs K lNil (tPairs []) := fun σ H Q ⟨G, en, ds, en', S, e1, k⟩ => by
  cases e1
  exact k [] G H (Step.refl S) .nil
theorem fps_cons {f g : Vv} {r : Lv} {trs : List (TE × TE)} (h : FPs K r (tPairs trs)) : FPs K (lCons f (lCons g r)) (tPairs ((FV K f, FV K g) :: trs)) := fun σ H Q ⟨G, en, ds, en', S, e1, k⟩ => by
  unfold lCons at e1
  split at e1
  · rename_i h1 en1 e2
    split at e1
    · rename_i h2 en2 e3
      cases e1
      split at e3
      · rename_i h3 en3 e4
        split at e3
        · rename_i h4 en4 e5
          cases e3
          refine ⟨G, en, h1, en1, S, e2, fun v G1 H1 T1 r1 => ⟨G1, en1, h3, en3, T1.sr, e4, fun w G2 H2 T2 r2 => ?_⟩⟩
          refine h σ H2 _ ⟨G2, en3, h4, _, T2.sr, e5, fun ps G3 H3 T3 r3 => ?_⟩
          exact k _ G3 H3 ((T1.trans T2).trans T3) (.cons (r1.mono (fun b o e => T3.ext.g _ _ (T2.ext.g b o e))) (.cons (r2.mono T3.ext.g) r3))
        · cases e3
      · cases e3
    · cases e1
  · cases e1
def pairsFlat : List D → Option (List (Key × D))
  | [] => some []
  | k :: v :: r => (keyOf k).bind fun k => (pairsFlat r).map fun t => (k, v) :: t
  | _ => none
theorem pairs_flat {G : Hp} : ∀ {ps : List (V × V)} {ds : List D} {ks : List (Key × D)}, Reps K G (ps.flatMap fun p => [p.1, p.2]) ds → pairsFlat ds = some ks → ∃ kvs : List (Key × V), ps = kvs.map (fun kv => (kV kv.1, kv.2)) ∧ RepPs K G kvs ks
  | [], _, ks, .nil, e => by cases e; exact ⟨[], rfl, .nil⟩
  | (x, y) :: ps, _, ks, .cons (d := d) r1 (.cons (d := d2) r2 r3), e => by
    obtain ⟨k, h1, h2⟩ := Option.bind_eq_some_iff.mp e
    obtain ⟨t, h3, h4⟩ := Option.map_eq_some_iff.mp h2
    subst h4
    have ek : x = kV k := keyV (H := G) (.inl r1) h1
    obtain ⟨kvs, w1, w2⟩ := pairs_flat r3 h3
    exact ⟨(k, y) :: kvs, by rw [w1, ek]; rfl, .cons r2 w2⟩
def fDisp (l : Lv) : Ev := fun en => (l en).bind fun x => (pairsFlat x.1).bind fun ks => if ks.length ≤ 15 then some (.dict (mergeD [] ks), true, x.2) else none
theorem RepPs.len {G : Hp} : ∀ {kvs : List (Key × V)} {ps : List (Key × D)}, RepPs K G kvs ps → kvs.length = ps.length
  | _, _, .nil => rfl
  | _, _, .cons _ t => by rw [List.length_cons, List.length_cons, t.len]
theorem fe_disp {keys : List (Option Expr)} {values : List Expr} {trs : List (TE × TE)} {l : Lv} (h : PPs X pos keys values trs) (hf : FPs X.K l (tPairs trs)) (hall : keys.all (·.isSome) = true := by rfl) (hl : keys.length = values.length := by rfl) (h0 : keys ≠ [] := by exact fun z => by cases z)
    (h15 : keys.length ≤ 15 := by decide) : PE X (.Dict keys values pos) (FE X.K (fDisp l)) :=
  pe_imp (pe_disp h hall hl h0 h15) fun σ H Q ⟨G, en, d, b, en', S, e1, k⟩ => by
    obtain ⟨⟨ds, en1⟩, p1, e2⟩ := Option.bind_eq_some_iff.mp e1
    obtain ⟨ks, p2, e3⟩ := Option.bind_eq_some_iff.mp e2
    obtain ⟨hk, e4⟩ := ite_some e3
    cases e4
    intro p hp
    have N0 := (New.own (o := .dK []) S.sub hp)
    have T0 := N0.step S
    have np : ∀ {en : En} {G0 H0 : Hp}, Step X.K en en1 σ G0 H0 G H0 → True := fun _ => trivial
    refine hf σ _ _ ⟨G, en, ds, en1, T0.sr, p1, fun ps G1 H1 T r => ?_⟩
    obtain ⟨kvs, w1, w2⟩ := pairs_flat r p2
    have no : ¬ OwnA en σ p := fun z => by
      obtain ⟨o, e, _⟩ := S.there z
      rw [hp] at e
      cases e
    have gp : G p = none := by
      cases e : G p with
      | none => rfl
      | some u =>
        have := S.sub p u e
        rw [hp] at this
        cases this
    have h1 : H1 p = some (.dK []) := T.ext.h p _ upd_same no
    have g1 : G1 p = none := T.ext.n p _ upd_same no gp
    have no1 : ¬ OwnA en1 σ p := fun z => no (T.own p z)
    refine ⟨h1, kvs, w1, by rw [w2.len]; exact hk, ?_⟩
    have ro : RepO X.K G1 (.dK (mergeK [] kvs)) (.dict (mergeD [] ks)) := .dK (w2.merge .nil)
    have T2 := T0.trans T
    have E : Ext (OwnA en σ) G H G1 (upd H1 p (.dK (mergeK [] kvs))) := ⟨T2.ext.g, fun b o e n => by
        have hb : b ≠ p := fun z => by rw [z, hp] at e; cases e
        rw [upd_ne hb]
        exact T2.ext.h b o e n, T2.ext.n, fun b e => by
        by_cases hb : b = p
        · rw [hb, upd_same] at e
          cases e
        · rw [upd_ne hb] at e
          exact T2.ext.t b e⟩
    have S2 : SR X.K G1 (upd H1 p (.dK (mergeK [] kvs))) en1 σ := by
      have Z := T.sr
      refine ⟨same_upd' Z.sub g1, Z.len, Z.shd, fun i d f q n => ?_, Z.sep⟩
      obtain ⟨a, o, e1, e2, e3, e4⟩ := Z.own i d f q n
      have ha : a ≠ p := fun z => no1 ⟨i, d, f, q, n, by rw [← z]; exact e1⟩
      exact ⟨a, o, e1, e2, by rw [upd_ne ha]; exact e3, e4⟩
    exact k _ G1 _ ⟨E, S2, T2.own, T2.lent⟩ ⟨p, _, rfl, .inl hp, no1, upd_same, g1, ro⟩
end
end Fx
/-! Fx10: sorted, min, max of data. -/
namespace Fx
open PySem PySem.Spec L2
section
variable {X : Cx} {pins : List (Addr × Obj)} {σ : St} {H : Hp} {s : Shared}
def Col (X : Cx) (pins : List (Addr × Obj)) (σ : St) (s : Shared) (v : Value) (T : Hp → List V → Prop) : Prop :=
  ∀ (R : List Value → Shared → Prop) (E : Value → Shared → Prop), (∀ us ys H2 h' tk, Vals ys us → Inv X pins σ H2 { s with heap := h', toks := tk } → T H2 ys → R us { s with heap := h', toks := tk }) → wpAny (model X.prog X.w) X.A.in1 (collect v) R E s
def Just (H : Hp) (ys : List V) : Hp → List V → Prop := fun H2 zs => H2 = H ∧ zs = ys
theorem col_list {a : Addr} {ys : List V} (I : Inv X pins σ H s) (h : SqL X.K H a ys) : Col X pins σ s (.ref a) (Just H ys) := fun R E k => by
  obtain ⟨its, rv, ⟨o, n, ho, hc, hd, hh⟩, hz⟩ := I.list h
  refine PySem.wpAny_collect_seq a (.inl rfl) ho hc hh (fun h' kp => ?_) (by rw [List.size_toArray, ← rv.length]; exact hz)
  exact k _ ys H h' s.toks (by simpa using rv) (I.kept (t' := s.toks) kp) ⟨rfl, rfl⟩
theorem col_tup {a : Addr} {ys : List V} (I : Inv X pins σ H s) (h : SqT X.K H a ys) : Col X pins σ s (.ref a) (Just H ys) := fun R E k => by
  obtain ⟨its, rv, ⟨o, ho, hc, n, hd⟩, hz⟩ := I.tuple h
  refine PySem.wpAny_collect_seq a (.inr rfl) ho hc hd (fun h' kp => ?_) (by rw [List.size_toArray, ← rv.length]; exact hz)
  exact k _ ys H h' s.toks (by simpa using rv) (I.kept (t' := s.toks) kp) ⟨rfl, rfl⟩
theorem vals_nth : ∀ {ys : List V} {us : List Value}, us.length = ys.length → (∀ (j : Nat) (v : Value), us[j]? = some v → ∃ x, ys[j]? = some x ∧ RelV x v) → Vals ys us
  | [], [], _, _ => .nil
  | [], _ :: _, h, _ => by cases h
  | _ :: _, [], h, _ => by cases h
  | y :: ys, u :: us, h, k => by
    obtain ⟨x, e, r⟩ := k 0 u rfl
    cases e
    exact .cons r (vals_nth (Nat.succ.inj h) fun j v e => k (j + 1) v e)
theorem col_dict (hc : X.calm = true) {a : Addr} {kvs : List (Key × V)} (I : Inv X pins σ H s) (h : Rd H a (.dK kvs)) : Col X pins σ s (.ref a) (Just H (kvs.map fun kv => kV kv.1)) := fun R E k => by
  obtain ⟨z, lo, vs, rel, dd⟩ := dk_rd I.hok h
  obtain ⟨ep, hat⟩ := dd.dictAt
  have hkeys : vs.map (·.1) = kvs.map (·.1) := rel.keys.symm
  have hl : vs.length = kvs.length := by
    have e := congrArg List.length hkeys
    rw [List.length_map, List.length_map] at e
    exact e
  refine PySem.W.kdu_collect (A := X.A.in1) (PySem.W.kdl_dict (knd := mixKind X.prog X.w) (kvs := vs) (ep := ep) lo) (I.ok.hd hc) hat (by rw [hl]; exact z) fun h' tk acc hk hacc => ?_
  refine k _ _ H h' tk (vals_nth (by rw [Array.length_toList, hacc.1, hl, List.length_map]) fun j v e => ?_) (I.kept hk) ⟨rfl, rfl⟩
  obtain ⟨kk, x, e1, e2⟩ := hacc.2 j v (by rw [← Array.getElem?_toList]; exact e)
  have e3 : (vs.map (·.1))[j]? = some kk := by rw [List.getElem?_map, e1]; all_goals rfl
  rw [hkeys, List.getElem?_map] at e3
  obtain ⟨kv, e4, e5⟩ := Option.map_eq_some_iff.mp e3
  refine ⟨kV kv.1, by rw [List.getElem?_map, e4]; rfl, ?_⟩
  rw [e5]
  rcases keyIs_shape e2 with ⟨i, t, e6, e7⟩ | ⟨x, t, e6, e7⟩
  · rw [e6, e7]
    exact ⟨t, rfl⟩
  · rw [e6, e7]
    exact ⟨t, rfl⟩
theorem paired_out {R : V → D → Prop} : ∀ {out : List Value} {ds : List D}, PySem.W.EachIs (fun u d => ∃ x, RelV x u ∧ R x d) out ds → ∃ zs, Vals zs out ∧ Paired R zs ds
  | _, _, .nil => ⟨[], .nil, .nil⟩
  | _, _, .cons ⟨x, r1, r2⟩ t => by
    obtain ⟨zs, h1, h2⟩ := paired_out t
    exact ⟨x :: zs, .cons r1 h1, .cons r2 h2⟩
theorem paired_in {R : V → D → Prop} : ∀ {ys : List V} {us : List Value} {ds : List D}, Vals ys us → Paired R ys ds → PySem.W.EachIs (fun u d => ∃ x, RelV x u ∧ R x d) us ds
  | _, _, _, .nil, .nil => .nil
  | _, _, _, .cons r1 t, .cons r2 t2 => .cons ⟨_, r1, r2⟩ (paired_in t t2)
def srtD (ds : List D) : List D := ds.mergeSort (PySem.W.dataLe false fun d : D => d)
/-- may such data be sorted -/
def sortOk (ds : List D) : Bool := decide (ds.length ≤ sizeLine) && ds.all (fun d => ds.all fun e => PySem.W.alike d e) && (ds.all (fun d => match d with
  | .tuple (_ :: _) => true
  | _ => false) || ds.all (fun d => match d with
  | .tuple _ => false
  | .none => false
  | _ => true)) && ds.all fun d => decide (d.depth < 40)
theorem sortOk_of {ds : List D} (h : sortOk ds = true) : ds.length ≤ sizeLine ∧ PySem.W.AllAlike ds ∧ PySem.W.Sortable ds ∧ ∀ d ∈ ds, d.depth < 40 := by
  unfold sortOk at h
  rw [Bool.and_eq_true, Bool.and_eq_true, Bool.and_eq_true, Bool.or_eq_true] at h
  obtain ⟨⟨⟨h1, h2⟩, h3⟩, h4⟩ := h
  refine ⟨of_decide_eq_true h1, fun d hd e he => ?_, ?_, fun d hd => of_decide_eq_true (List.all_eq_true.mp h4 d hd)⟩
  · exact List.all_eq_true.mp (List.all_eq_true.mp h2 d hd) e he
  · rcases h3 with h3 | h3
    · refine .inl fun d hd => ?_
      have := List.all_eq_true.mp h3 d hd
      split at this
      · exact ⟨_, _, rfl⟩
      · cases this
    · refine .inr fun d hd => ?_
      have := List.all_eq_true.mp h3 d hd
      split at this
      · cases this
      · cases this
      · rename_i n1 n2
        exact ⟨fun e => n2 e, fun xs e => n1 xs e⟩
/-- the sort of what was collected -/
theorem sort_run {x : Value} {T : Hp → List V → Prop} {ds : List D} {Q : VK} (hu : X.A.units + 64 < cLine) (C : Col X pins σ s x T) (ok : sortOk ds = true)
    (hT : ∀ H ys, T H ys → DpAll X.K H ys ds ∧ ∃ R : V → D → Prop, Paired R ys ds ∧ ∀ p zs, H p = none → Paired R zs (srtD ds) → Q (.ref p) (upd H p (.lst zs))) : wpAny (model X.prog X.w) X.A (call (.builtin "sorted") [x]) (EP X pins σ Q) X.xe s := by
  obtain ⟨hz, hal, hk, hd⟩ := sortOk_of ok
  refine Calls.call_function_entry PyProof.Rows.kind_sorted PyProof.Rows.plain_sorted PyProof.Rows.entry_sorted (PyProof.Rows.args_sorted1 _) ?_
  unfold Builtin.«sorted»
  refine wpAny_bind (m := checkCount "sorted" 1 1 _) (wpAny_pure ?_)
  refine wpAny_bind (C _ _ fun us ys H h' tk rv I hh => ?_)
  obtain ⟨dp, R, pr, q⟩ := hT H ys hh
  have hl : us.length = ds.length := rv.length.symm.trans pr.length
  refine wpAny_bind (wpAny_newList ?_ (by rw [hl]; exact hz))
  have hoL : (h'.push (PyProof.Rows.seqObj "list" us.toArray 0)).get? h'.objs.size = some (PyProof.Rows.seqObj "list" us.toArray 0) := Heap.get?_push_size _ rfl
  show wpAny _ _ _ _ _ { s with heap := h'.push (PyProof.Rows.seqObj "list" us.toArray 0), toks := tk }
  have hn : H h'.objs.size = none := I.hok.fresh (Nat.le_refl _)
  have er : PySem.W.EachIs (fun v d => ∃ as, Reads (PySem.W.sortingHeap (h'.push (PyProof.Rows.seqObj "list" us.toArray 0)) h'.objs.size us) v d as) us ds := by
    obtain ⟨as, ra⟩ := Dp.readsAll I ds ys us dp rv
    have e0 := PySem.W.readsAll_each (fun d : D => d) (bs := ds) (by rw [List.map_id']; exact ra)
    exact e0.mono fun v d ⟨as, r⟩ => ⟨as, PyProof.Rows.Reads.keeps (fun b o e => PySem.W.sortingHeap_old (Nat.ne_of_lt (Heap.lt_size e)) (Heap.get?_push_of_some _ e)) r⟩
  have eR := paired_in rv pr
  have S : PySem.W.SortsAt X.prog X.w X.A.in1.in1 { s with heap := PySem.W.sortingHeap (h'.push (PyProof.Rows.seqObj "list" us.toArray 0)) h'.objs.size us, toks := tk } (PySem.W.dataKind (PySem.W.sortingHeap (h'.push (PyProof.Rows.seqObj "list" us.toArray 0)) h'.objs.size us) ds) us :=
    PySem.W.SortsAt.data (s := { s with heap := PySem.W.sortingHeap (h'.push (PyProof.Rows.seqObj "list" us.toArray 0)) h'.objs.size us, toks := tk }) er hal hk fun d hm => by
      have h1 := hd d hm
      have h2 : X.A.in1.in1.units ≤ X.A.units + 2 := by
        first | rfl | exact Nat.le_refl _ | decide
      omega
  refine wpAny_bind (wpAny_holding (PySem.wpAny_call_entry PyProof.Rows.slot_list_sort ⟨_, hoL, rfl⟩ PyProof.Rows.entry_list_sort (PySem.W.list_sort_vals (s := { s with heap := h'.push (PyProof.Rows.seqObj "list" us.toArray 0), toks := tk }) hoL S (by rw [hl]; exact hz) ?_) (PyProof.Rows.args_list_sort _)))
  refine ⟨_, rfl, wpAny_pure ⟨_, rfl, ?_⟩⟩
  have eo := PySem.W.sortVals_data (enc := fun d : D => d) false eR er (by rw [List.map_id']; exact hal)
  rw [List.map_id'] at eo
  obtain ⟨zs, rz, pz⟩ := paired_out eo
  generalize hO : PySem.W.sortVals (PySem.W.dataKind (PySem.W.sortingHeap (h'.push (PyProof.Rows.seqObj "list" us.toArray 0)) h'.objs.size us) ds) false us us = out at rz ⊢
  obtain ⟨n, hat⟩ := PyProof.Rows.sortedHeap_at (vs := us) (out := out.toArray) hoL
  have hlt : h'.objs.size < (h'.push (PyProof.Rows.seqObj "list" us.toArray 0)).objs.size := Heap.lt_size hoL
  have kp : ∀ b o, h'.get? b = some o → (PyProof.Rows.sortedHeap (h'.push (PyProof.Rows.seqObj "list" us.toArray 0)) h'.objs.size us out.toArray).get? b = some o := fun b o e => by
    have hb : b < h'.objs.size := Heap.lt_size e
    rw [PyProof.Rows.sortedHeap_old (Nat.ne_of_lt hb) (Nat.lt_trans hb hlt)]
    exact Heap.get?_push_of_some _ e
  refine ⟨.ref h'.objs.size, upd H h'.objs.size (.lst zs), I.laid (t' := tk) kp (Nat.le_refl _) ⟨?_, out, n, rz, hat⟩, rfl, q _ zs hn pz⟩
  rw [pz.length, List.length_mergeSort]
  exact hz
/-! ### sorted -/
def rSortG (K : PySem.W.Frag) : List V → Hp → VK → Prop := fun vs H Q => ∃ (a : Addr) (ys : List V) (ds : List D) (R : V → D → Prop), vs = [.ref a] ∧ (SqL K H a ys ∨ SqT K H a ys ∨ ∃ kvs, Rd H a (.dK kvs) ∧ ys = kvs.map fun kv => kV kv.1) ∧
  DpAll K H ys ds ∧ Paired R ys ds ∧ sortOk ds = true ∧ ∀ p zs, H p = none → Paired R zs (srtD ds) → Q (.ref p) (upd H p (.lst zs))
theorem cr_sortG (hc : X.calm = true) (hu : X.A.units + 64 < cLine) : CallR X (.builtin "sorted") (rSortG X.K) := by
  intro pins s σ H xs us Q I r ⟨a, ys, ds, R, e, h, dp, pr, ok, q⟩
  subst e
  obtain ⟨u, rfl, rx⟩ := Vals.one r
  cases rx
  have hT : ∀ H' zs, Just H ys H' zs → DpAll X.K H' zs ds ∧ ∃ R : V → D → Prop, Paired R zs ds ∧ ∀ p zs, H' p = none → Paired R zs (srtD ds) → Q (.ref p) (upd H' p (.lst zs)) := by
    rintro _ _ ⟨rfl, rfl⟩
    exact ⟨dp, R, pr, q⟩
  rcases h with h | h | ⟨kvs, h, e⟩
  · exact sort_run hu (col_list I h) ok hT
  · exact sort_run hu (col_tup I h) ok hT
  · subst e
    exact sort_run hu (col_dict hc I h) ok hT
theorem reps_dp {K : PySem.W.Frag} {G H : Hp} (s : Same G H) : ∀ {xs : List V} {ds : List D}, Reps K G xs ds → (∀ d ∈ ds, d.canLay0 = true) → DpAll K H xs ds
  | _, _, .nil, _ => .nil
  | _, _, .cons h t, c => .cons (Use.dp s (.inl h) (c _ (List.mem_cons_self ..))) (reps_dp s t fun d hd => c d (List.mem_cons_of_mem _ hd))
theorem reps_pair {K : PySem.W.Frag} {G : Hp} : ∀ {xs : List V} {ds : List D}, Reps K G xs ds → Paired (Rep K G) xs ds
  | _, _, .nil => .nil
  | _, _, .cons h t => .cons h (reps_pair t)
theorem pair_reps {K : PySem.W.Frag} {G : Hp} : ∀ {xs : List V} {ds : List D}, Paired (Rep K G) xs ds → Reps K G xs ds
  | _, _, .nil => .nil
  | _, _, .cons h t => .cons h (pair_reps t)
def seqK : D → Option (List D)
  | .list ds => some ds
  | .tuple ds => some ds
  | .dict es => some (es.map (·.1))
  | _ => none
def layOk (ds : List D) : Bool := ds.all fun d => d.canLay0
def dSort : List D → Option (D × Bool)
  | [d] => (seqK d).bind fun ds => if sortOk ds = true ∧ layOk ds = true then some (.list (srtD ds), true) else none
  | _ => none
theorem repKV_keys {K : PySem.W.Frag} {G : Hp} : ∀ {kvs : List (Key × V)} {es : List (D × D)}, RepKV K G kvs es → Reps K G (kvs.map fun kv => kV kv.1) (es.map (·.1))
  | _, _, .nil => .nil
  | _, _, .cons (k := k) h t => .cons (by cases k; exact .int _; exact .str _) (repKV_keys t)
theorem on_sort {K : PySem.W.Frag} : OpN K (rSortG K) dSort := fun vs ds z b G H Q s u hg k => by
  unfold dSort at hg
  split at hg
  · obtain ⟨ds, h1, h2⟩ := Option.bind_eq_some_iff.mp hg
    obtain ⟨⟨ok, lay⟩, h3⟩ := ite_some h2
    cases h3
    obtain ⟨v, rfl, u0⟩ := u.one
    have lay' : ∀ d ∈ ds, d.canLay0 = true := fun d hd => List.all_eq_true.mp lay d hd
    have fin : ∀ (p : Addr) (zs : List V), H p = none → Paired (Rep K G) zs (srtD ds) → Q (.ref p) (upd H p (.lst zs)) := fun p zs hp pz => k _ _ _ (New.own s hp) (Fresh.new s hp (.lst (pair_reps pz)))
    unfold seqK at h1
    split at h1
    · cases h1
      obtain ⟨a, xs, rfl, h, r⟩ := u0.list s
      exact ⟨a, xs, _, Rep K G, rfl, .inl h, reps_dp s r lay', reps_pair r, ok, fin⟩
    · cases h1
      obtain ⟨a, xs, rfl, h, r⟩ := u0.tuple s
      exact ⟨a, xs, _, Rep K G, rfl, .inr (.inl h), reps_dp s r lay', reps_pair r, ok, fin⟩
    · cases h1
      obtain ⟨a, kvs, rfl, h, r⟩ := u0.dict s
      exact ⟨a, _, _, Rep K G, rfl, .inr (.inr ⟨kvs, h, rfl⟩), reps_dp s (repKV_keys r) lay', reps_pair (repKV_keys r), ok, fin⟩
    · cases h1
  · cases hg
/-! ### the pairs of a dict, laid as tuples -/
theorem un_more {fs ex : List Addr} {H H1 : Hp} {h h' : Heap} {a : Addr} {o : HO} (u : Un fs ex H H1 h h') (ha : h.get? a = none) (hn : H1 a = none) : Un fs ex H (upd H1 a o) h h' where
  keep := u.keep
  slot := u.slot
  free := fun b v q n x => by rw [upd_ne (fun z => by rw [z, ha] at q; cases q)]; exact u.free b v q n x
  there := u.there
  tups := fun b xs q => by
    have e := u.tups b xs q
    rw [upd_ne (ne_of_none e hn)]; exact e
  frzs := fun b v xs q => by
    have e := u.frzs b v xs q
    rw [upd_ne (ne_of_none e hn)]; exact e
  tbls := fun b ps q => by
    obtain ⟨m, e⟩ := u.tbls b ps q
    exact ⟨m, by rw [upd_ne (ne_of_none e hn)]; exact e⟩
inductive ItM : Hp → List (Key × V) → Hp → List V → Prop
  | nil {H : Hp} : ItM H [] H []
  | cons {H H2 : Hp} {p : Addr} {o : Obj} {k : Key} {v : V} {r : List (Key × V)} {ys : List V} : H p = none → o.dict = none → ItM (upd H p (.frz o (.tup [kV k, v]))) r H2 ys → ItM H ((k, v) :: r) H2 (.ref p :: ys)
theorem kV_of {k : Key} {u : Value} (h : keyIs k u = true) : RelV (kV k) u := by
  rcases keyIs_shape h with ⟨i, t, e6, e7⟩ | ⟨x, t, e6, e7⟩
  · rw [e6, e7]
    exact ⟨t, rfl⟩
  · rw [e6, e7]
    exact ⟨t, rfl⟩
theorem items_laid {h h' : Heap} {P : Program} {w : World} {fs ex : List Addr} {H0 : Hp} (sz : 2 ≤ sizeLine) : ∀ {kvs : List (Key × V)} {vs : List (Key × Value)} {as : List Addr} {H : Hp}, KV kvs vs → as.length = vs.length → Un fs ex H0 H h h' → HOk P w H h' → (∀ a ∈ as, h.get? a = none ∧ H a = none) → as.Nodup →
    (∀ (j : Nat) (a : Addr), as[j]? = some a → ∃ key k x, vs[j]? = some (k, x) ∧ keyIs k key = true ∧ h'.get? a = some { cls := .type "tuple", data := .seq #[key, x] }) →
    ∃ H2 ys, ItM H kvs H2 ys ∧ Vals ys (as.map Value.ref) ∧ Un fs ex H0 H2 h h' ∧ HOk P w H2 h'
  | [], [], as, H, .nil, hl, u, ok, _, _, _ => by
    cases as with
    | nil => exact ⟨H, [], .nil, .nil, u, ok⟩
    | cons _ _ => cases hl
  | (k, v) :: kvs, _, as, H, .cons (b := q) (l₂ := vs) hr t, hl, u, ok, hf, nd, hp => by
    cases as with
    | nil => cases hl
    | cons a as =>
      obtain ⟨key, k', x, e1, e2, e3⟩ := hp 0 a rfl
      cases e1
      obtain ⟨ek, rv⟩ := hr
      have ek : k = k' := ek
      subst ek
      obtain ⟨f1, f2⟩ := hf a (List.mem_cons_self ..)
      have ok1 : HOk P w (upd H a (.frz { cls := .type "tuple", data := .seq #[key, x] } (.tup [kV k, v]))) h' := HOk.laidN ok (fun _ _ e => e) f2 ⟨e3, sz, [key, x], .cons (kV_of e2) (.cons rv .nil), ⟨_, e3, rfl, _, rfl⟩⟩
      have nd' := List.nodup_cons.mp nd
      obtain ⟨H2, ys, w1, w2, w3, w4⟩ := items_laid sz (as := as) t (Nat.succ.inj hl) (un_more u f1 f2) ok1 (fun b hb => ⟨(hf b (List.mem_cons_of_mem _ hb)).1, by
        rw [upd_ne (fun z => nd'.1 (by rw [← z]; exact hb))]
        exact (hf b (List.mem_cons_of_mem _ hb)).2⟩) nd'.2 fun j b e => hp (j + 1) b e
      exact ⟨H2, _, .cons f2 rfl w1, .cons rfl w2, w3, w4⟩
theorem col_items (hc : X.calm = true) {p a : Addr} {kvs : List (Key × V)} (I : Inv X pins σ H s) (hp : H p = some (DX.itemsO p a)) (h : Rd H a (.dK kvs)) : Col X pins σ s (.ref p) (fun H2 ys => ItM H kvs H2 ys) := fun R E k => by
  have view : s.heap.IsItemsView p a := (show ObjOk X.prog X.w H s.heap p (DX.itemsO p a) from I.hok p _ hp).1
  obtain ⟨z, lo, vs, rel, dd⟩ := dk_rd I.hok h
  obtain ⟨ep, hat⟩ := dd.dictAt
  refine PySem.W.kdx_collect (A := X.A.in1) (knd := mixKind X.prog X.w) (I.ok.hd hc) view hat (by rw [← rel.length]; exact z) fun h' tk as hk hl g => ?_
  have nd : as.Nodup := List.Pairwise.imp (fun h => Nat.ne_of_lt h) g.rise
  have ab : ∀ b ∈ as, s.heap.get? b = none ∧ H b = none := fun b hb => by
    have h1 := Nat.le_of_lt (g.above b hb)
    refine ⟨?_, I.hok.fresh h1⟩
    cases e : s.heap.get? b with
    | none => rfl
    | some o => exact absurd (Heap.lt_size e) (Nat.not_lt.mpr h1)
  have I1 : Inv X pins σ H { s with heap := h', toks := tk } := I.kept hk
  obtain ⟨H2, ys, w1, w2, w3, w4⟩ := items_laid (P := X.prog) (w := X.w) (fs := X.fs) (ex := []) (H0 := H) (h := s.heap) (by rw [sizeLine_eq]; omega) rel hl (by
      exact ⟨fun b u q _ _ _ => hk b u q, fun b u q _ _ _ => ⟨u.slots, hk b u q⟩, fun b u q n _ => n, fun b u q _ => ⟨u, hk b u q⟩, fun _ _ q => q, fun _ _ _ q => q, fun b ps q => ⟨#[], by rw [q]; simp⟩⟩) I1.hok ab nd g.pairs
  exact k _ ys H2 h' tk w2 (I.un w3 w4) w1
/-! ### d.items() -/
def rItemsK (K : PySem.W.Frag) : V → List V → Hp → VK → Prop := fun x xs H Q => ∃ (a : Addr) (kvs : List (Key × V)), x = .ref a ∧ xs = [] ∧ Rd H a (.dK kvs) ∧ ∀ p, H p = none → Q (.ref p) (upd H p (DX.itemsO p a))
theorem mt_itemsK : MtR X "dict.items" (rItemsK X.K) := by
  intro pins s σ H x xs v us Q I rx rxs ⟨a, kvs, e1, e2, ha, q⟩
  subst e1
  subst e2
  cases rx
  cases rxs
  obtain ⟨z, lo, vs, rel, dd⟩ := dk_rd I.hok ha
  obtain ⟨ep, o, es, ho, hx, hdat, _⟩ := dd.dictAt
  refine DT.callItems (es := es) (ep := ep) lo ⟨o, ho, hx, hdat⟩ ?_
  have hf : H s.heap.objs.size = none := I.hok.fresh (Nat.le_refl _)
  exact ⟨.ref s.heap.objs.size, upd H s.heap.objs.size (DX.itemsO s.heap.objs.size a), I.laid (t' := s.toks) (fun b u e => Heap.get?_push_of_some _ e) (Nat.le_refl _) (DX.itemsO_ok (Heap.get?_push_size _ rfl)), rfl, q _ hf⟩
/-- sorted(d.items()) -/
def rSortIK (K : PySem.W.Frag) : List V → Hp → VK → Prop := fun vs H Q => ∃ (p a : Addr) (kvs : List (Key × V)) (ds : List D), vs = [.ref p] ∧ H p = some (DX.itemsO p a) ∧ Rd H a (.dK kvs) ∧ sortOk ds = true ∧
  ∀ H2 ys, ItM H kvs H2 ys → DpAll K H2 ys ds ∧ ∃ R : V → D → Prop, Paired R ys ds ∧ ∀ p zs, H2 p = none → Paired R zs (srtD ds) → Q (.ref p) (upd H2 p (.lst zs))
theorem cr_sortIK (hc : X.calm = true) (hu : X.A.units + 64 < cLine) : CallR X (.builtin "sorted") (rSortIK X.K) := by
  intro pins s σ H xs us Q I r ⟨p, a, kvs, ds, e, hp, h, ok, q⟩
  subst e
  obtain ⟨u, rfl, rx⟩ := Vals.one r
  cases rx
  exact sort_run hu (col_items hc I hp h) ok q
theorem repKV_items {K : PySem.W.Frag} : ∀ {kvs : List (Key × V)} {es : List (D × D)} {G H H2 : Hp} {ys : List V}, ItM H kvs H2 ys → RepKV K G kvs es → Same G H → ∃ G2, New G H G2 H2 ∧ Reps K G2 ys (es.map fun p => .tuple [p.1, p.2])
  | _, _, G, H, _, _, .nil, .nil, s => ⟨G, New.refl s, .nil⟩
  | _, _, G, H, H2, _, .cons (p := p) (o := o) (k := k) (v := v) hp ho t, .cons h rt, s => by
    have N := New.shd (o := .frz o (.tup [kV k, v])) s hp
    obtain ⟨G2, N2, r2⟩ := repKV_items t (rt.mono N.ext.g) N.sub
    refine ⟨G2, ⟨N.ext.trans N2.ext fun _ h => .inl h, N2.sub⟩, .cons ?_ r2⟩
    refine Rep.mono N2.ext.g (.tup (.inl ⟨o, upd_same, ho⟩) (.cons ?_ (.cons (h.mono N.ext.g) .nil)))
    cases k
    · exact .int _
    · exact .str _
def dSortI : D → Option (D × Bool)
  | .dict es => if sortOk (es.map fun p => .tuple [p.1, p.2]) = true ∧ layOk (es.map fun p => .tuple [p.1, p.2]) = true then some (.list (srtD (es.map fun p => .tuple [p.1, p.2])), true) else none
  | _ => none
theorem fe_sortI {o : Expr} {p : Ov} {np apos cpos pos : Pos} (hc : X.calm = true) (hu : X.A.units + 64 < cLine) (hm : X.mg "sorted" = none) (ho : PE X o (FO X.K p)) (hg : Gl X "sorted" := by rfl) (hbase : attributeBase o "items" X.env (eval o X.env) = eval o X.env := by rfl) (hline : (apos.endLine == cpos.line) = true := by rfl)
    (he : starEach [.Call (.Attribute o "items" apos) [] [] cpos] X.env = [(false, eval (.Call (.Attribute o "items" apos) [] [] cpos) X.env)] := by rfl) (hpl : (backTo pos (starEach [] X.env)).any (·.1) = false := by rfl) :
    PE X (.Call (.Name "sorted" np) [.Call (.Attribute o "items" apos) [] [] cpos] [] pos) (FE X.K (f1 p dSortI)) :=
  pe_imp (pe_callB (cr_sortIK hc hu) hg hm (by decide +kernel) (pa_cons (pe_mG0 (kindD X).ok PySem.F.plainAttrs_dict PySem.F.slot_dict_items PySem.F.type_dict_items mt_itemsK ho hbase hline) pa_nil he) (by decide) (by decide) he hpl) fun σ H Q ⟨G, en, d, b, en', S, e1, k⟩ => by
    obtain ⟨⟨x, en1⟩, p1, e2⟩ := Option.bind_eq_some_iff.mp e1
    obtain ⟨d0, p3, e4⟩ := Option.bind_eq_some_iff.mp e2
    obtain ⟨⟨z', b'⟩, p5, e6⟩ := Option.map_eq_some_iff.mp e4
    cases e6
    unfold dSortI at p5
    split at p5
    · obtain ⟨⟨ok, lay⟩, e7⟩ := ite_some p5
      cases e7
      refine ⟨G, en, x, en1, S, p1, fun v G1 H1 T1 r1 => ?_⟩
      have U := r1.use T1.sr p3
      obtain ⟨a, kvs, rfl, h, r⟩ := U.dict T1.sr.sub
      refine ⟨(kindD X).use T1.sr.sub U rfl, a, kvs, rfl, rfl, h, fun q hq => ?_⟩
      have N0 := New.own (o := DX.itemsO q a) T1.sr.sub hq
      refine ⟨q, a, kvs, _, rfl, upd_same, rdS (fun b o e => N0.ext.h b o e (fun z => z)) h, ok, fun H2 ys im => ?_⟩
      obtain ⟨G2, N2, r2⟩ := repKV_items im r N0.sub
      refine ⟨reps_dp N2.sub r2 fun d hd => List.all_eq_true.mp lay d hd, Rep X.K G2, reps_pair r2, fun l zs hl pz => ?_⟩
      have N3 := New.own (o := .lst zs) N2.sub hl
      have N : New G1 H1 G2 (upd H2 l (.lst zs)) := ⟨(N0.ext.trans N2.ext fun _ h => .inl h).trans N3.ext fun _ h => .inl h, N3.sub⟩
      refine k _ _ _ (T1.trans (N.step T1.sr)) (Fresh.res' T1 ?_)
      obtain ⟨a, o, e, q1, q2, q3, q4, q5⟩ := Fresh.new (K := X.K) N2.sub hl (.lst (pair_reps pz))
      refine ⟨a, o, e, .inl ?_, q2, q3, q4, q5⟩
      cases e
      exact N0.ext.t l (N2.ext.t l hl)
    · cases p5
end
end Fx
/-! Fx11: several names by a tuple, list(range(..)). -/
namespace Fx
open PySem PySem.Spec L2
section
variable {K : PySem.W.Frag} {X : Cx} {a b e o : Expr} {es : List Expr} {pos p apos cpos : Pos}
theorem resL_step {O : Addr → Prop} {H0 : Hp} {G H G1 H1 : Hp} {en : En} {σ : St} (T : Step K en en σ G H G1 H1) : ∀ {vs : List V} {ds : List (D × Bool)}, ResL K O H0 (OwnA en σ) G H vs ds → ResL K O H0 (OwnA en σ) G1 H1 vs ds
  | _, _, .nil => .nil
  | _, _, .cons (b := b) r t => by
    refine .cons ?_ (resL_step T t)
    cases b with
    | false => exact Rep.mono T.ext.g r
    | true =>
      obtain ⟨a, o, e, q1, q2, q3, q4, q5⟩ := r
      have n : ¬ OwnA en σ a := fun z => q2 (.inl z)
      exact ⟨a, o, e, q1, q2, T.ext.h a o q3 n, T.ext.n a o q3 n q4, q5.mono T.ext.g⟩
def gNs (is : List Nat) : TGs := fun vs σ H Q => vs.length = is.length ∧ Q (stAll is vs σ) H
theorem gns_nil : PGs X [] (gNs []) := pgs_imp pgs_nil fun vs σ H Q ⟨hl, q⟩ => by
  cases vs with
  | nil => exact ⟨rfl, q⟩
  | cons _ _ => cases hl
theorem gns_cons {i : Nat} {is : List Nat} {x : Str} (hN : X.N.Nodup) (h2 : PGs X es (gNs is)) (hi : X.N[i]? = some x := by rfl) (hx : Loc X.env.scope x := by first | exact .inl rfl | exact .inr rfl) (hf : X.fn x = true ∨ X.env.scope.names.lookup x = some .local := by first | exact .inl rfl | exact .inr rfl | assumption)
    (hs : (assignEach (.Name x pos :: es) X.env).map (·.2) = assign (.Name x pos) X.env :: (assignEach es X.env).map (·.2) := by rfl) : PGs X (.Name x pos :: es) (gNs (i :: is)) :=
  pgs_imp (pgs_cons (pg_name hN hi hx hf) h2 hs) fun vs σ H Q ⟨hl, q⟩ => by
    cases vs with
    | nil => cases hl
    | cons v vs => exact ⟨v, vs, rfl, Nat.succ.inj hl, q⟩
theorem fs_parT {ns : List Expr} {is : List Nat} {l : Mv} {k1 x1} {p1 p2 : Pos} {n : Nat} (hc : X.calm = true) (hn : PGs X ns (gNs is)) (ha : PA X es (FM X.K l)) (hs : swapsWithSole [.Tuple ns k1 p1] (.Tuple es x1 p2) pos.line X.env = pure false := by rfl) (hw : swappedStores [.Tuple ns k1 p1] (.Tuple es x1 p2) X.env = pure none := by rfl)
    (h1 : (assignEach [.Tuple ns k1 p1] X.env).map (·.2) = [assign (.Tuple ns k1 p1) X.env] := by rfl) (hm : (assignEach ns X.env).length = n := by rfl) (hst : (assignEach ns X.env).findIdx? (·.1) = none := by rfl) (hi : is.length = n := by rfl) (hz : is.length ≤ 100 := by decide) :
    PS X (.Assign [.Tuple ns k1 p1] (.Tuple es x1 p2) pos) (FS X.K (sParN is l)) := ps_imp (ps_asg (pe_tupZ ha) (pg_tup hc hn hm hst) hs hw h1) fun D σ H ⟨G, en, out, en', S, e1, k⟩ => by
  obtain ⟨⟨ds, en1⟩, q1, e2⟩ := Option.bind_eq_some_iff.mp e1
  obtain ⟨en2, q2, e3⟩ := Option.map_eq_some_iff.mp e2
  cases e3
  refine ⟨G, en, ds, en1, S, q1, fun vs G1 H1 T r => ?_⟩
  have hl := (resL_len r).trans (putAll_len q2).symm
  refine ⟨by rw [hl, sizeLine_eq]; omega, fun q o hq ho => ?_⟩
  have N := New.own (o := .frz o (.tup vs)) T.sr.sub hq
  have T2 := N.step T.sr
  refine ⟨q, vs, rfl, .inl (.inr ⟨o, upd_same⟩), hl.trans hi, hl, ?_⟩
  exact k G1 _ _ (put_all (T.trans T2).s (resL_step T2 r) q2)
/-! ### list(range(..)) -/
def rgD (i j : Int) : List D := (List.range (j - i).toNat).map fun n => .int (i + (n : Nat))
theorem reps_rg {G : Hp} (i j : Int) : Reps K G (rgV i j) (rgD i j) := by
  unfold rgV rgD
  have go : ∀ l : List Nat, Reps K G (l.map fun n => V.int (i + (n : Nat))) (l.map fun n => .int (i + (n : Nat))) := by
    intro l
    induction l with
    | nil => exact .nil
    | cons c r ih => exact .cons (.int _) ih
  exact go _
def rgOk (i j : Int) : Bool := decide (-(2 ^ 62) ≤ i) && decide (i < 2 ^ 62) && decide (-(2 ^ 62) ≤ j) && decide (j < 2 ^ 62) && decide ((j - i).toNat ≤ 2 ^ 24)
theorem rgOk_of {i j : Int} (h : rgOk i j = true) : RgOk i j := by
  unfold rgOk at h
  simp only [Bool.and_eq_true, decide_eq_true_eq] at h
  exact ⟨h.1.1.1.1, h.1.1.1.2, h.1.1.2, h.1.2, h.2⟩
def fLr1 (f : Vv) : Ev := fun en => (f en).bind fun x => match x.1 with
  | .int j => if rgOk 0 j = true then some (.list (rgD 0 j), true, x.2) else none
  | _ => none
def fLr2 (f g : Vv) : Ev := fun en => (f en).bind fun x => (g x.2).bind fun y => match x.1, y.1 with
  | .int i, .int j => if rgOk i j = true then some (.list (rgD i j), true, y.2) else none
  | _, _ => none
theorem fe_lr1 {f : Vv} {p1 p2 : Pos} (hc : X.calm = true) (hm1 : X.mg "list" = none) (hm2 : X.mg "range" = none) (ha : PE X a (FV X.K f)) (hg1 : Gl X "list" := by rfl) (hg2 : Gl X "range" := by rfl) (n1 : starEach [a] X.env = (false, eval a X.env) :: starEach [] X.env := by rfl)
    (n2 : starEach [.Call (.Name "range" p2) [a] [] pos] X.env = (false, eval (.Call (.Name "range" p2) [a] [] pos) X.env) :: starEach [] X.env := by rfl) : PE X (.Call (.Name "list" p1) [.Call (.Name "range" p2) [a] [] pos] [] p) (FE X.K (fLr1 f)) :=
  pe_imp (pe_listRg hc hg1 hm1 (prg_1 hg2 hm2 ha n1) n2) fun σ H Q ⟨G, en, d, b, en', S, e1, k⟩ => by
    obtain ⟨⟨x, en1⟩, p1, e2⟩ := Option.bind_eq_some_iff.mp e1
    refine ⟨G, en, x, en1, S, p1, fun v G1 H1 T r => ?_⟩
    dsimp only at e2
    split at e2
    · rename_i j
      obtain ⟨ok, e3⟩ := ite_some e2
      cases e3
      cases r
      refine ⟨_, rfl, rgOk_of ok, fun q hq => ?_⟩
      have N := New.own (o := .lst (rgV 0 j)) T.sr.sub hq
      exact k _ _ _ (T.trans (N.step T.sr)) (Fresh.res' T (Fresh.new T.sr.sub hq (.lst (reps_rg _ _))))
    · cases e2
theorem fe_lr2 {f g : Vv} {p1 p2 : Pos} (hc : X.calm = true) (hm1 : X.mg "list" = none) (hm2 : X.mg "range" = none) (ha : PE X a (FV X.K f)) (hb : PE X b (FV X.K g)) (hg1 : Gl X "list" := by rfl) (hg2 : Gl X "range" := by rfl) (n0 : starEach [a, b] X.env = (false, eval a X.env) :: starEach [b] X.env := by rfl) (n1 : starEach [b] X.env = (false, eval b X.env) :: starEach [] X.env := by rfl)
    (hp : (backTo pos (starEach [b] X.env)).any (·.1) = false := by rfl) (n2 : starEach [.Call (.Name "range" p2) [a, b] [] pos] X.env = (false, eval (.Call (.Name "range" p2) [a, b] [] pos) X.env) :: starEach [] X.env := by rfl) : PE X (.Call (.Name "list" p1) [.Call (.Name "range" p2) [a, b] [] pos] [] p) (FE X.K (fLr2 f g)) :=
  pe_imp (pe_listRg hc hg1 hm1 (prg_2 hg2 hm2 ha hb n0 n1 hp) n2) fun σ H Q ⟨G, en, d, bb, en', S, e1, k⟩ => by
    obtain ⟨⟨x, en1⟩, p1, e2⟩ := Option.bind_eq_some_iff.mp e1
    obtain ⟨⟨y, en2⟩, p2, e2⟩ := Option.bind_eq_some_iff.mp e2
    refine ⟨G, en, x, en1, S, p1, fun v G1 H1 T1 r1 => ⟨G1, en1, y, en2, T1.sr, p2, fun w G2 H2 T2 r2 => ?_⟩⟩
    dsimp only at e2
    split at e2
    · rename_i i j _
      obtain ⟨ok, e3⟩ := ite_some e2
      cases e3
      cases r1
      cases r2
      refine ⟨_, _, rfl, rfl, rgOk_of ok, fun q hq => ?_⟩
      have T := T1.trans T2
      have N := New.own (o := .lst (rgV i j)) T.sr.sub hq
      exact k _ _ _ (T.trans (N.step T.sr)) (Fresh.res' T (Fresh.new T.sr.sub hq (.lst (reps_rg _ _))))
    · cases e2
end
end Fx
/-! Fx12: own defs by name. -/
namespace Fx
open PySem PySem.Spec L2
def fuelN : Nat := 1000000
theorem _root_.L2.Room.u65 {k : Nat} {A : Around} (r : Room k A) : A.units + 65 < cLine := by have := r.un; omega
theorem _root_.L2.Room.u1 {k : Nat} {A : Around} (r : Room k A) : A.units + 1 < cLine := by have := r.un; omega
theorem _root_.L2.Room.u64 {k : Nat} {A : Around} (r : Room k A) : A.units + 64 < cLine := by have := r.un; omega
/-- an own def, its promise -/
def Ow (P : Program) (w : World) (K : PySem.W.Frag) (mg : Str → Option Value) (base : Heap) (k : Nat) (x : Str) (ps : List Str) (sp : Sp) : Prop :=
  ∃ (f : Addr) (fd : FuncData), mg x = some (.ref f) ∧ PySem.W.keepIn K (.ref f) = true ∧ Binds K fd ps [] ∧ FnOk P w K mg base CX0 k f fd ps sp
section
variable {X : Cx} {k j np : Nat} {ps : List Str} {x : Str} {p pos : Pos} {e : Expr} {es : List Expr}
theorem fe_callO {l : Lv} {F0 : List D → Option (D × Bool)} (o : Ow X.prog X.w X.K X.mg X.base j x ps (sp0 X.K np F0)) (hr : Room k X.A) (ha : PA X (e :: es) (FL X.K l)) (hjk : j ≤ k := by decide)
    (hg : Gl X x := by rfl) (hdb : (x == ("__debug__" : Str)) = false := by decide) (he : starEach (e :: es) X.env = (false, eval e X.env) :: starEach es X.env := by rfl) (hpl : (backTo pos (starEach es X.env)).any (·.1) = false := by rfl) : PE X (.Call (.Name x p) (e :: es) [] pos) (FE X.K (fCall np l F0)) :=
  let ⟨f, fd, hm, hk, hb, F⟩ := o
  fe_call F (hr.mono hjk) hm hk hb ha hg hdb he hpl
theorem fe_callO0 {F0 : List D → Option (D × Bool)} (o : Ow X.prog X.w X.K X.mg X.base j x ps (sp0 X.K np F0)) (hr : Room k X.A) (hjk : j ≤ k := by decide)
    (hg : Gl X x := by rfl) (hdb : (x == ("__debug__" : Str)) = false := by decide) : PE X (.Call (.Name x p) [] [] pos) (FE X.K (fCall np lNil F0)) :=
  let ⟨f, fd, hm, hk, hb, F⟩ := o
  fe_call0 F (hr.mono hjk) hm hk hb hg hdb
theorem fe_callWO {l : Lv} {i : Nat} {F0 : D → List D → Option (D × Bool × D)} (o : Ow X.prog X.w X.K X.mg X.base j x ps (spW X.K np F0)) (hr : Room k X.A) (hw : PE X e (tVar i)) (ha : PA X es (FL X.K l)) (hjk : j ≤ k := by decide)
    (hg : Gl X x := by rfl) (hdb : (x == ("__debug__" : Str)) = false := by decide) (he : starEach (e :: es) X.env = (false, eval e X.env) :: starEach es X.env := by rfl) (hpl : (backTo pos (starEach es X.env)).any (·.1) = false := by rfl) : PE X (.Call (.Name x p) (e :: es) [] pos) (FE X.K (fCallW np i l F0)) :=
  let ⟨f, fd, hm, hk, hb, F⟩ := o
  fe_callW F (hr.mono hjk) hm hk hb hw ha hg hdb he hpl
end
theorem fv_globS {X : Cx} {x z : Str} {pos : Pos} (h : ∃ t, X.mg x = some (.str z t)) (hg : Gl X x := by rfl) (hd : (x == ("__debug__" : Str)) = false := by decide) : PE X (.Name x pos) (FV X.K (fC (.str z))) :=
  let ⟨t, hm⟩ := h
  fv_glob (v := .str z) hm ⟨t, rfl⟩ (fun _ => .str _) hg hd
theorem fs_ornil {X : Cx} : PSs X [] (FS X.K sNx) := fs_nil
end Fx
/-! Fx13: tests that compare. -/
namespace Fx
open PySem PySem.Spec L2
section
variable {X : Cx} {K : PySem.W.Frag} {a b c e : Expr} {pos pos' : Pos}
theorem tb_of {f : Ev} {σ : St} {H : Hp} {Q : Bool → Hp → Prop} (h : FT K (tB1 f) σ H Q) : FE K f σ H fun v H1 => ∃ c, v = .bl c ∧ Q c H1 := by
  obtain ⟨G, en, c, en', S, e1, k⟩ := h
  obtain ⟨⟨d, b, en1⟩, p1, e2⟩ := Option.bind_eq_some_iff.mp e1
  cases d <;> first | (cases e2; done) | skip
  rename_i c'
  cases e2
  exact ⟨G, en, _, b, _, S, p1, fun v G' H' T r => ⟨c, res_bool (G := G) (H := H) r, k G' H' T⟩⟩
theorem ft_cmp {op : CmpOp} {r : R2} {p q : Ov} {g : D → D → Option (D × Bool)} (o : Op2 X.K r g) (ho : OpR X (compareOp op) r) (ha : PE X a (FO X.K p)) (hb : PE X b (FO X.K q)) (hm : behindInMarks op b = false) : PT X (.Compare a [op] [b] pos) (FT X.K (tB1 (f2 p q g))) :=
  pt_imp (pt_cmpR ho ha hb hm) fun _ _ _ h => t2_of o (tb_of h)
theorem ft_isN {p : Ov} {j} (ha : PE X a (FO X.K p)) : PT X (.Compare a [.Is] [.Constant .none j pos'] pos) (FT X.K (tB1 (fIs p isND))) :=
  pt_imp (pt_cmpR op_isN ha pe_non rfl) fun _ _ _ h => t2c_of (fun x d G H Q u q => ⟨rfl, by rw [use_non u]; exact q⟩) (tb_of h)
theorem ft_notN {p : Ov} {j} (ha : PE X a (FO X.K p)) : PT X (.Compare a [.IsNot] [.Constant .none j pos'] pos) (FT X.K (tB1 (fIs p fun d => !isND d))) :=
  pt_imp (pt_cmpR op_notN ha pe_non rfl) fun _ _ _ h => t2c_of (fun x d G H Q u q => ⟨rfl, by rw [use_non u]; exact q⟩) (tb_of h)
theorem ft_isB {p : Ov} {c : Bool} {j} (ha : PE X a (FO X.K p)) : PT X (.Compare a [.Is] [.Constant (.bool c) j pos'] pos) (FT X.K (tB1 (fIs p (isBD c)))) :=
  pt_imp (pt_cmpR op_isB ha pe_bl rfl) fun _ _ _ h => t2c_of (fun x d G H Q u q => ⟨rfl, use_ty u, by rw [use_bl u]; exact q⟩) (tb_of h)
theorem ft_isNotB {p : Ov} {c : Bool} {j} (ha : PE X a (FO X.K p)) : PT X (.Compare a [.IsNot] [.Constant (.bool c) j pos'] pos) (FT X.K (tB1 (fIs p fun d => !isBD c d))) :=
  pt_imp (pt_cmpR op_isNotB ha pe_bl rfl) fun _ _ _ h => t2c_of (fun x d G H Q u q => ⟨rfl, use_ty u, by rw [use_bl u]; exact q⟩) (tb_of h)
theorem chain_of {r r' : R2} {p q w : Ov} {g g' : D → D → Option (D × Bool)} (o : Op2 K r g) (o' : Op2 K r' g') {σ : St} {H : Hp} {Q : VK} (h : FE K (fChain p q g g' w) σ H Q) : tChain r r' (FO K p) (FO K q) (FO K w) σ H Q := by
  obtain ⟨G, en, z, zb, en', S, e1, k⟩ := h
  obtain ⟨⟨x, en1⟩, p1, e2⟩ := Option.bind_eq_some_iff.mp e1
  obtain ⟨⟨y, en2⟩, p2, e3⟩ := Option.bind_eq_some_iff.mp e2
  obtain ⟨d, p3, e4⟩ := Option.bind_eq_some_iff.mp e3
  obtain ⟨e, p4, e5⟩ := Option.bind_eq_some_iff.mp e4
  obtain ⟨⟨z1, b1⟩, p5, e6⟩ := Option.bind_eq_some_iff.mp e5
  refine ⟨G, en, x, en1, S, p1, fun v G1 H1 T1 r1 => ⟨G1, en1, y, en2, T1.sr, p2, fun u G2 H2 T2 r2 => ?_⟩⟩
  cases b1 with
  | true => cases z1 <;> cases e6
  | false =>
    cases z1 <;> first | (cases e6; done) | skip
    rename_i c1
    have T12 := T1.trans T2
    refine o v u d e _ _ G2 H2 _ T2.sr.sub ((r1.step T2).use T2.sr p3) (r2.use T2.sr p4) p5 fun v3 G3 H3 N F => ?_
    have T3 := N.step T2.sr
    refine ⟨c1, res_bool (G := G) (H := H2) F, ?_⟩
    cases c1 with
    | false =>
      cases e6
      exact iteF (k _ G3 H3 (T12.trans T3) (Rep.bl false))
    | true =>
      obtain ⟨⟨u1, en4⟩, q1, f2⟩ := Option.bind_eq_some_iff.mp (show ((w en2).bind fun u => (y.late u.2).bind fun e => (u.1.late u.2).bind fun e' => (g' e e').map fun z => (z.1, z.2, u.2)) = some (z, zb, en') from e6)
      obtain ⟨e8, q2, f3⟩ := Option.bind_eq_some_iff.mp f2
      obtain ⟨e9, q3, f4⟩ := Option.bind_eq_some_iff.mp f3
      obtain ⟨⟨z', b'⟩, p7, e10⟩ := Option.map_eq_some_iff.mp f4
      cases e10
      refine iteT ⟨G3, en2, u1, en4, T3.sr, q1, fun v4 G4 H4 T4 r4 => ?_⟩
      have T := (T12.trans T3).trans T4
      exact o' u v4 e8 e9 _ _ G4 H4 Q T4.sr.sub (((r2.step T3).step T4).use T4.sr q2) (r4.use T4.sr q3) p7 fun v G' H' N F => k v G' H' (T.trans (N.step T4.sr)) (F.res' T)
theorem ft_chain {op op' : CmpOp} {r r' : R2} {p q w : Ov} {g g' : D → D → Option (D × Bool)} (o : Op2 X.K r g) (o' : Op2 X.K r' g') (ho : OpR X (compareOp op) r) (ho' : OpR X (compareOp op') r') (ha : PE X a (FO X.K p)) (hb : PE X b (FO X.K q)) (hc : PE X c (FO X.K w))
    (hp : PT X (.Compare a [op, op'] [b, c] pos) (tTest (tChain r r' (FO X.K p) (FO X.K q) (FO X.K w)))) : PT X (.Compare a [op, op'] [b, c] pos) (FT X.K (tB1 (fChain p q g g' w))) :=
  pt_imp hp fun _ _ _ h => chain_of o o' (tb_of h)
def tIfF (c f g : Tv) : Tv := fun en => (c en).bind fun x => if x.1 = true then f x.2 else g x.2
theorem ft_if {t f g : Tv} (hc : PT X c (FT X.K t)) (ha : PT X a (FT X.K f)) (hb : PT X b (FT X.K g)) : PT X (.IfExp c a b pos) (FT X.K (tIfF t f g)) := by
  refine ⟨fun pins s σ H Q I ⟨G, en, d, en', S, e1, k⟩ => ?_⟩
  obtain ⟨⟨z, en1⟩, p1, e2⟩ := Option.bind_eq_some_iff.mp e1
  refine PyProof.Rows.isTrue_IfExp (thn (hc.run pins s σ H (fun z' H1 => z' = z ∧ ∃ G1, Step X.K en en1 σ G H G1 H1) I ⟨G, en, z, en1, S, p1, fun G1 H1 T => ⟨rfl, G1, T⟩⟩) fun d s1 ⟨H1, I1, ez, G1, T⟩ => ?_)
  subst ez
  cases d with
  | true => exact ha.run pins s1 σ H1 _ I1 ⟨G1, en1, _, en', T.sr, e2, fun G2 H2 T2 => k G2 H2 (T.trans T2)⟩
  | false => exact hb.run pins s1 σ H1 _ I1 ⟨G1, en1, _, en', T.sr, e2, fun G2 H2 T2 => k G2 H2 (T.trans T2)⟩
def blkB (N : List Str) (sc scope : Scope) (own : List (Str × Nat)) : Bool :=
  decide (scope.kind = .function) && (scope.names.all fun y => decide (scope.names.lookup y.1 = some y.2)) && (own.all fun p => decide (N[p.2]? = some p.1)) &&
  (scope.names.all fun y => !decide (y.2 = .free) || (decide (sc.names.lookup y.1 = some .cell) || decide (sc.names.lookup y.1 = some .free))) &&
  scope.names.all fun y => !(decide (y.2 = .local) || decide (y.2 = .cell)) || (decide (y.1 ∈ own.map (·.1)) || !decide (y.1 ∈ N))
theorem blkOf {N : List Str} {sc scope : Scope} {own : List (Str × Nat)} (h : blkB N sc scope own = true) : BlkOk N sc scope own := by
  unfold blkB at h
  simp only [Bool.and_eq_true, List.all_eq_true, decide_eq_true_eq, Bool.or_eq_true, Bool.not_eq_true', decide_eq_false_iff_not] at h
  obtain ⟨⟨⟨⟨h1, h2⟩, h3⟩, h4⟩, h5⟩ := h
  refine ⟨h1, h2, h3, fun y hy e => (h4 y hy).resolve_left fun n => n e, fun y hy e => (h5 y hy).resolve_left fun n => ?_⟩
  rw [Bool.or_eq_false_iff, decide_eq_false_iff_not, decide_eq_false_iff_not] at n
  exact e.elim n.1 n.2
end
end Fx
namespace Fx
open PySem PySem.Spec L2
theorem reps_ints {K : PySem.W.Frag} {G : Hp} : ∀ ns : List Int, Reps K G (ns.map V.int) (ns.map PyData.int)
  | [] => .nil
  | i :: r => .cons (.int i) (reps_ints r)
end Fx
/-! Fx15: dict.get, list.extend. -/
namespace Fx
open PySem PySem.Spec L2
section
variable {X : Cx} {K : PySem.W.Frag}
def rDGet : V → List V → Hp → VK → Prop := fun x xs H Q => ∃ (a : Addr) (y : V) (o : Option V), x = .ref a ∧ DGet H a y o ∧ ((xs = [y] ∧ Q (o.getD .non) H) ∨ ∃ d, xs = [y, d] ∧ Q (o.getD d) H)
theorem mt_dget (hu : X.A.units + 1 < cLine) : MtR X "dict.get" rDGet := by
  intro pins s σ H x xs v us Q I rx rxs ⟨a, y, o, e, g, h⟩
  subst e
  cases rx
  rcases h with ⟨e, q⟩ | ⟨d, e, q⟩
  · subst e
    obtain ⟨u, rfl, ry⟩ := Vals.one rxs
    exact d_get1 hu I g ry fun w' s' I' r' => ⟨_, H, I', r', q⟩
  · subst e
    obtain ⟨u, u2, rfl, ry, rd⟩ := rxs.two
    exact d_get2 hu I g ry rd fun w' s' I' r' => ⟨_, H, I', r', q⟩
def plainD : D → Bool
  | .list _ => false
  | .dict _ => false
  | _ => true
theorem use_plain {G H : Hp} {v : V} {d : D} (u : Use K G H v d) (h : plainD d = true) : Rep K G v d := by
  rcases u with u | ⟨a, o, e, h1, r⟩
  · exact u
  · cases r <;> cases h
def dGetM : D → List D → Option (D × Bool)
  | .dict es, [k] => (keyOf k).map fun k => ((Fx.dictGet es k).getD .none, false)
  | .dict es, [k, d] => (keyOf k).bind fun k => match Fx.dictGet es k with
    | some z => some (z, false)
    | none => if plainD d = true then some (d, false) else none
  | _, _ => none
theorem or_dget : OpMR K rDGet dGetM := fun x d xs ds z b G H Q s u us hg k => by
  unfold dGetM at hg
  split at hg
  · obtain ⟨kk, h1, h2⟩ := Option.map_eq_some_iff.mp hg
    cases h2
    obtain ⟨a, kvs, rfl, h, r⟩ := u.dict s
    obtain ⟨y, rfl, uy⟩ := us.one
    have e := keyV uy h1
    subst e
    refine ⟨a, _, _, rfl, dget_of h, .inl ⟨rfl, ?_⟩⟩
    rcases r.get kk with ⟨w1, w2⟩ | ⟨v, d, w1, w2, w3⟩
    · rw [w1]
      exact k _ G H (New.refl s) (Fresh.sh (by rw [w2]; exact .non))
    · rw [w1]
      exact k _ G H (New.refl s) (Fresh.sh (by rw [w2]; exact w3))
  · obtain ⟨kk, h1, h2⟩ := Option.bind_eq_some_iff.mp hg
    obtain ⟨a, kvs, rfl, h, r⟩ := u.dict s
    obtain ⟨y, y2, rfl, uy, uy2⟩ := us.two
    have e := keyV uy h1
    subst e
    refine ⟨a, _, _, rfl, dget_of h, .inr ⟨y2, rfl, ?_⟩⟩
    rcases r.get kk with ⟨w1, w2⟩ | ⟨v, d, w1, w2, w3⟩
    · rw [w2] at h2
      dsimp only at h2
      obtain ⟨hp, h3⟩ := ite_some h2
      cases h3
      rw [w1]
      exact k _ G H (New.refl s) (Fresh.sh (use_plain uy2 hp))
    · rw [w2] at h2
      cases h2
      rw [w1]
      exact k _ G H (New.refl s) (Fresh.sh w3)
  · cases hg
/-! ### xs.extend(ys), of a list or a tuple -/
def rExtG (K : PySem.W.Frag) : V → List V → Hp → VK → Prop := fun x vs H Q => ∃ l b xs zs, x = .ref l ∧ vs = [.ref b] ∧ H l = some (.lst xs) ∧ (SqL K H b zs ∨ SqT K H b zs) ∧ xs.length + zs.length ≤ sizeLine ∧ Q .non (upd H l (.lst (xs ++ zs)))
theorem ext_seq {prog : Program} {w : World} {A : Around} {E : Value → Shared → Prop} {s : Shared} {S it : Addr} {T : String} {o : Obj} {xs items : Array Value} {n c : Nat} {P : PySem.Fin → Shared → Prop} (hT : T = "list" ∨ T = "tuple")
    (hS : s.heap.get? S = some { cls := .type "list", data := .seq xs c }) (ho : s.heap.get? it = some o) (hc : o.cls = .type T) (hd : o.data = .seq items n) (hsz : xs.size + items.size ≤ sizeLine)
    (hR : P (.done (.ret .none)) { s with heap := s.heap.update S (Obj.mapSeq (· ++ items)) }) : wpAny (model prog w) A (Builtin.List.listExtendWith (.ref S) (.ref it) .none) P E s := by
  unfold Builtin.List.listExtendWith
  refine wpAny_bind (wpAny_typeOf ⟨o, ho, hc⟩ ?_)
  have h1 : (Builtin.List.listSameRef (.ref S) (.ref it) || Value.type T == Value.type "list" || Value.type T == Value.type "tuple") = true := by
    rcases hT with rfl | rfl <;> simp
  simp only [h1, if_true]
  refine wpAny_bind ?_
  unfold Builtin.List.listItems
  refine wpAny_bind (wpAny_seqItems ho hd (wpAny_pure ?_))
  refine wpAny_bind ?_
  refine wpAny_bind (wpAny_seqItems hS rfl (wpAny_pure ?_))
  have hlong : ¬ (!xs.isEmpty && Builtin.List.listTooLong (xs.size + items.size)) = true := by
    rw [notLongL hsz, Bool.and_false]
    exact Bool.false_ne_true
  rw [if_neg hlong]
  show wpAny _ A (updateSeq S (· ++ items) >>= fun _ => ret .none) _ _ s
  refine wpAny_bind (wpAny_updateSeq hS rfl ?_)
  exact wpAny_pure hR
theorem mt_ext : MtR X "list.extend" (rExtG X.K) := by
  intro pins s σ H x vs v us Q I rx rv ⟨l, b, xs, zs, e1, e2, hH, hB, hz, q⟩
  subst e1
  subst e2
  cases rx
  obtain ⟨u, rfl, ru⟩ := Vals.one rv
  cases ru
  obtain ⟨z, its, n, r, hl, e⟩ := I.lstM hH
  have go : ∀ {T : String} {o : Obj} {its2 : List Value} {n2 : Nat}, (T = "list" ∨ T = "tuple") → Vals zs its2 → s.heap.get? b = some o → o.cls = .type T → o.data = .seq its2.toArray n2 → wpAny (model X.prog X.w) X.A (call (.builtin "list.extend") [.ref l, .ref b]) (EP X pins σ Q) X.xe s := by
    intro T o its2 n2 hT r2 ho hc hd
    have hl2 := r2.length
    refine PySem.wpAny_call_entry PySem.F.slot_list_extend ⟨_, e, rfl⟩ PySem.F.entry_list_extend ?_ (PySem.F.args_list_extend_2 _ _)
    refine ext_seq hT e ho hc hd (by rw [List.size_toArray, List.size_toArray]; omega) ⟨.none, rfl, .non, _, I.lset (its' := its ++ its2) hH e (by simp) (r.append r2) ?_, rfl, q⟩
    rw [List.length_append]
    omega
  rcases hB with hB | hB
  · obtain ⟨its2, r2, ⟨o, n2, ho, hc, hd, hh⟩, _⟩ := I.list hB
    exact go (.inl rfl) r2 ho hc hh
  · obtain ⟨its2, r2, ⟨o, ho, hc, n2, hd⟩, _⟩ := I.tuple hB
    exact go (.inr rfl) r2 ho hc hd
def mExtG : D → List D → Option (D × Bool × D)
  | .list ds, [.list es] => if ds.length + es.length ≤ sizeLine then some (.none, false, .list (ds ++ es)) else none
  | .list ds, [.tuple es] => if ds.length + es.length ≤ sizeLine then some (.none, false, .list (ds ++ es)) else none
  | _, _ => none
theorem om_ext : OpM K (rExtG K) mExtG := fun l o d xs ds z b d' G H Q s g h r rs e k => by
  unfold mExtG at e
  split at e
  · obtain ⟨hl, e⟩ := ite_some e
    cases e
    cases r with
    | lst q =>
      cases rs with
      | cons r1 r2 =>
        cases r2
        obtain ⟨a, ys, rfl, ha, ry⟩ := Use.list s (.inl r1)
        exact ⟨l, a, _, _, rfl, rfl, h, .inl ha, by rw [q.length, ry.length]; exact hl, opM_upd s g h (.lst (q.append ry)) .non k⟩
  · obtain ⟨hl, e⟩ := ite_some e
    cases e
    cases r with
    | lst q =>
      cases rs with
      | cons r1 r2 =>
        cases r2
        obtain ⟨a, ys, rfl, ha, ry⟩ := Use.tuple s (.inl r1)
        exact ⟨l, a, _, _, rfl, rfl, h, .inr ha, by rw [q.length, ry.length]; exact hl, opM_upd s g h (.lst (q.append ry)) .non k⟩
  · cases e
end
end Fx
/-! Fx16: tuple(range(..)). -/
namespace Fx
open PySem PySem.Spec L2
section
variable {X : Cx} {K : PySem.W.Frag} {a b e : Expr} {pos p : Pos}
def tTupRgZ (te : St → Hp → (Int → Int → Hp → Prop) → Prop) : TE := fun σ H Q => te σ H fun a b H1 => RgOk a b ∧ ∀ q o, H1 q = none → o.dict = none → Q (.ref q) (upd H1 q (.frz o (.tup (rgV a b))))
open PyProof.Rows in
theorem pe_tupRgZ {te : L2.St → Hp → (Int → Int → Hp → Prop) → Prop} (hc : X.calm = true) (hg : Gl X "tuple") (hm : X.mg "tuple" = none) (he : PRg X e te) (na : starEach [e] X.env = (false, eval e X.env) :: starEach [] X.env := by rfl) : PE X (.Call (.Name "tuple" p) [e] [] pos) (tTupRgZ te) := by
  refine ⟨fun pins s σ H Q I h => ?_⟩
  refine Call_ (ld_blt I hg hm boot_tuple (PyProof.Rows.callWith_type1 (args_cons (thn (he pins s σ H _ I h) fun x s1 ⟨r, a, b, t, u, v, H1, ex, hr, I1, ok, q⟩ => args_nil ?_) na) na))
  subst ex
  obtain ⟨b1, b2, b3, b4, b5⟩ := ok
  refine call_tuple_range (n := (b - a).toNat) (I1.ok.hd hc) hr (small_one b1 b2 b3 b4) (rangeSize_nat a b) b5 fun h' tk acc hk hi => ?_
  have I2 : Inv X pins σ H1 { s1 with heap := h', toks := tk } := I1.kept hk
  refine ⟨.ref h'.objs.size, upd H1 h'.objs.size (.frz { cls := .type "tuple", data := .seq acc } (.tup (rgV a b))), I2.laid (t' := tk) (fun c o e => Heap.get?_push_of_some _ e) (Nat.le_refl _) ⟨Heap.get?_push_size _ rfl, ?_, acc.toList, vals_rg hi, ?_⟩, rfl, q _ _ (I2.hok.fresh (Nat.le_refl _)) rfl⟩
  · rw [rgV_length, sizeLine_eq]; omega
  · rw [Array.toArray_toList]; exact PyProof.Rows.IsTup.new _ _
def fTr1 (f : Vv) : Vv := fun en => (f en).bind fun x => match x.1 with
  | .int j => if rgOk 0 j = true then some (.tuple (rgD 0 j), x.2) else none
  | _ => none
theorem fv_tr1 {f : Vv} {p1 p2 : Pos} (hc : X.calm = true) (hm1 : X.mg "tuple" = none) (hm2 : X.mg "range" = none) (ha : PE X a (FV X.K f)) (hg1 : Gl X "tuple" := by rfl) (hg2 : Gl X "range" := by rfl) (n1 : starEach [a] X.env = (false, eval a X.env) :: starEach [] X.env := by rfl)
    (n2 : starEach [.Call (.Name "range" p2) [a] [] pos] X.env = (false, eval (.Call (.Name "range" p2) [a] [] pos) X.env) :: starEach [] X.env := by rfl) : PE X (.Call (.Name "tuple" p1) [.Call (.Name "range" p2) [a] [] pos] [] p) (FV X.K (fTr1 f)) :=
  pe_imp (pe_tupRgZ hc hg1 hm1 (prg_1 hg2 hm2 ha n1) n2) fun σ H Q ⟨G, en, d, en', S, e1, k⟩ => by
    obtain ⟨⟨x, en1⟩, p1, e2⟩ := Option.bind_eq_some_iff.mp e1
    refine ⟨G, en, x, en1, S, p1, fun v G1 H1 T r => ?_⟩
    dsimp only at e2
    split at e2
    · rename_i j
      obtain ⟨ok, e3⟩ := ite_some e2
      cases e3
      cases r
      refine ⟨_, rfl, rgOk_of ok, fun q o hq ho => ?_⟩
      have N := New.shd (o := .frz o (.tup (rgV 0 j))) T.sr.sub hq
      exact k _ _ _ (T.trans (N.step T.sr)) (.tup (.inl ⟨o, upd_same, ho⟩) (reps_rg 0 j))
    · cases e2
end
end Fx
/-! Fx17: min, max of a list of data. -/
namespace Fx
open PySem PySem.Spec L2
theorem vals_back_at : ∀ {ys : List V} {us : List Value} {i : Nat} {v : Value}, Vals ys us → us[i]? = some v → ∃ x, ys[i]? = some x ∧ RelV x v
  | _, _, 0, _, .cons r _, h => by cases h; exact ⟨_, rfl, r⟩
  | _, _, i + 1, _, .cons _ t, h => vals_back_at (i := i) t h
theorem reads_at {h : Heap} : ∀ {us : List Value} {ds : List D} {as : List Addr} {i : Nat} {v : Value}, ReadsAll h us ds as → us[i]? = some v → ∃ d bs, ds[i]? = some d ∧ Reads h v d bs
  | _, _, _, 0, _, .cons r _, e => by cases e; exact ⟨_, _, rfl, r⟩
  | _, _, _, i + 1, _, .cons _ t, e => reads_at (i := i) t e
def rPickD (K : PySem.W.Frag) (A : Around) (pick : D → List D → D) : List V → Hp → VK → Prop := fun vs H Q => ∃ (a : Addr) (ys : List V) (d : D) (ds : List D), vs = [.ref a] ∧ SqL K H a ys ∧ DpAll K H ys (d :: ds) ∧ PySem.W.AlikeAll (d :: ds) ∧ A.units + 1 + PyData.depthAll (d :: ds) < cLine ∧
  ∀ (i : Nat) (x : V), ys[i]? = some x → (d :: ds)[i]? = some (pick d ds) → Q x H
section
variable {X : Cx}
theorem cr_minD (hc : X.calm = true) : CallR X (.builtin "min") (rPickD X.K X.A PySem.W.minD) := by
  intro pins s σ H vs us Q I r ⟨a, ys, d, ds, e, hs, dp, al, hu, q⟩
  subst e
  obtain ⟨u, rfl, rx⟩ := Vals.one r
  cases rx
  obtain ⟨its, rv, pl, hz⟩ := I.list hs
  obtain ⟨as, ra⟩ := Dp.readsAll I (d :: ds) ys its dp rv
  refine PySem.W.min_list_data (I.ok.hd hc) pl.isList (by simpa using ra) al hu fun i v h' tk bs hv rd hk => ?_
  obtain ⟨x, e1, e2⟩ := vals_back_at rv (by simpa using hv)
  obtain ⟨z, cs, e3, e4⟩ := reads_at ra (by simpa using hv)
  have e5 := (PyProof.Rows.Reads.keeps hk e4).unique _ _ rd
  exact ⟨x, H, I.kept hk, e2, q i x e1 (by rw [e3, e5.1])⟩
theorem cr_maxD (hc : X.calm = true) : CallR X (.builtin "max") (rPickD X.K X.A PySem.W.maxD) := by
  intro pins s σ H vs us Q I r ⟨a, ys, d, ds, e, hs, dp, al, hu, q⟩
  subst e
  obtain ⟨u, rfl, rx⟩ := Vals.one r
  cases rx
  obtain ⟨its, rv, pl, hz⟩ := I.list hs
  obtain ⟨as, ra⟩ := Dp.readsAll I (d :: ds) ys its dp rv
  refine PySem.W.max_list_data (I.ok.hd hc) pl.isList (by simpa using ra) al hu fun i v h' tk bs hv rd hk => ?_
  obtain ⟨x, e1, e2⟩ := vals_back_at rv (by simpa using hv)
  obtain ⟨z, cs, e3, e4⟩ := reads_at ra (by simpa using hv)
  have e5 := (PyProof.Rows.Reads.keeps hk e4).unique _ _ rd
  exact ⟨x, H, I.kept hk, e2, q i x e1 (by rw [e3, e5.1])⟩
theorem depth_all : ∀ {ds : List D}, (∀ d ∈ ds, d.depth < 40) → PyData.depthAll ds < 41
  | [], _ => by show 0 < 41; omega
  | d :: ds, h => by
    have h1 := h d (List.mem_cons_self ..)
    have h2 := depth_all fun x hx => h x (List.mem_cons_of_mem _ hx)
    show max _ _ < 41
    omega
def pickOk (ds : List D) : Bool := (ds.all fun d => ds.all fun e => PySem.W.alike d e) && (ds.all fun d => !isND d) && layOk ds && ds.all fun d => decide (d.depth < 40)
def dPick (pick : D → List D → D) : List D → Option (D × Bool)
  | [.list (d :: ds)] => if pickOk (d :: ds) = true then some (pick d ds, false) else none
  | _ => none
theorem on_pick {K : PySem.W.Frag} {A : Around} (hu : A.units + 64 < cLine) (pick : D → List D → D) : OpN K (rPickD K A pick) (dPick pick) := fun vs ds z b G H Q s u hg k => by
  unfold dPick at hg
  split at hg
  · rename_i d ds
    obtain ⟨ok, h2⟩ := ite_some hg
    cases h2
    unfold pickOk at ok
    rw [Bool.and_eq_true, Bool.and_eq_true, Bool.and_eq_true] at ok
    obtain ⟨⟨⟨o1, o2⟩, o3⟩, o4⟩ := ok
    obtain ⟨v, rfl, u0⟩ := u.one
    obtain ⟨a, xs, rfl, h, r⟩ := u0.list s
    refine ⟨a, xs, d, ds, rfl, h, reps_dp s r fun x hx => List.all_eq_true.mp o3 x hx, ⟨fun x hx y hy => List.all_eq_true.mp (List.all_eq_true.mp o1 x hx) y hy, fun x hx e => ?_⟩, ?_, fun i x e1 e2 => ?_⟩
    · have := List.all_eq_true.mp o2 x hx
      rw [e] at this
      cases this
    · have := depth_all fun x hx => of_decide_eq_true (List.all_eq_true.mp o4 x hx)
      omega
    · obtain ⟨w, w1, w2⟩ := r.get e1
      rw [e2] at w1
      cases w1
      exact k _ G H (New.refl s) (Fresh.sh w2)
  · cases hg
end
end Fx
/-! Fx18: comprehensions with two for. -/
namespace Fx
open PySem PySem.Spec L2
def lcO (vs vs1 : List Nat) (s : Gv) (t : Tv) (it1 : Lv) (s1 : Gv) (t1 : Tv) (f : Vv) : List D → En → Option (List D × En)
  | [], en => some ([], en)
  | d :: ds, en => (s d (wipeE en vs)).bind fun e1 => (t e1).bind fun x => if x.1 = true then (it1 x.2).bind fun z => (lcL vs1 s1 t1 f z.1 (wipeE z.2 vs1)).bind fun y => (lcO vs vs1 s t it1 s1 t1 f ds (wipeE y.2 vs)).map fun r => (y.1 ++ r.1, r.2) else lcO vs vs1 s t it1 s1 t1 f ds (wipeE x.2 vs)
def fLc2 (vs vs1 : List Nat) (it : Lv) (s : Gv) (t : Tv) (it1 : Lv) (s1 : Gv) (t1 : Tv) (f : Vv) : Ev := fun en => (it en).bind fun x => (lcO vs vs1 s t it1 s1 t1 f x.1 (wipeE x.2 vs)).bind fun y => if y.1.length ≤ sizeLine then some (.list y.1, true, backE x.2 y.2 vs) else none
section
variable {X : Cx} {e : Expr} {pos : Pos}
theorem wipe_in {σ : St} {vs us : List Nat} (h : ∀ i ∈ us, i ∈ vs) : wipe (wipe σ us) vs = wipe σ vs := by
  apply List.ext_getElem?
  intro i
  by_cases hi : i ∈ vs
  · by_cases hn : i < σ.length
    · rw [wipe_on hi hn, wipe_on hi (by rw [wipe_length]; exact hn)]
    · rw [List.getElem?_eq_none (by rw [wipe_length, wipe_length]; omega), List.getElem?_eq_none (by rw [wipe_length]; omega)]
  · rw [wipe_off hi, wipe_off hi, wipe_off fun z => hi (h i z)]
theorem lc2_of {R R1 : Given} {K : PySem.W.Frag} {vs vs1 ts ts1 : List Nat} {it it1 : Lv} {s s1 : Gv} {t t1 : Tv} {f : Vv} (hts : ∀ i ∈ ts, i ∈ vs) (hts1 : ∀ i ∈ ts1, i ∈ vs1) (hv : ∀ i ∈ vs1, i ∈ vs) {σ : St} {H : Hp} {Q : VK} (h : FE K (fLc2 vs vs1 it s t it1 s1 t1 f) σ H Q) : tLc2 (FI R K it) (FG R K ts s) (FT K t) (FI R1 K it1) (FG R1 K ts1 s1) (FT K t1) (FV K f) vs vs1 σ H Q := by
  obtain ⟨G, en, z, zb, en', S, e1, k⟩ := h
  obtain ⟨⟨ds, en1⟩, p1, e2⟩ := Option.bind_eq_some_iff.mp e1
  obtain ⟨⟨rs, en2⟩, p2, e3⟩ := Option.bind_eq_some_iff.mp e2
  obtain ⟨hz, e4⟩ := ite_some e3
  cases e4
  refine ⟨G, en, ds, en1, S, p1, fun J G1 H1 T1 hJ D hD => ?_⟩
  have S1 := T1.sr
  have nobD : ∀ {e : En} {σ' : St}, (∀ b, OwnA e σ' b → OwnA (wipeE en1 vs) (wipe σ vs) b) → ¬ OwnA e σ' D := fun {e σ'} hh q => by
    obtain ⟨o, ho, _⟩ := S1.there (own_wipe (hh D q))
    rw [hD] at ho
    cases ho
  -- names of a block are forgotten
  have fin : ∀ {us : List Nat} {σ4 τ : St} {e6 : En} {G6 H6 : Hp}, (∀ i ∈ us, i ∈ vs) → wipe σ4 us = τ → StepG K (wipeE en1 vs) (wipe σ vs) G1 H1 e6 σ4 G6 H6 → StepG K (wipeE en1 vs) (wipe σ vs) G1 H1 (wipeE e6 us) τ G6 H6 := fun {us σ4 τ e6 G6 H6} hu ww T => by
    have W := T.sr.wipe (vs := us)
    rw [ww] at W
    refine ⟨T.ext, W, fun b q => ?_, fun i d q => ?_⟩
    · rw [← ww] at q
      exact T.own b (own_wipe q)
    · obtain ⟨⟨d', e'⟩, s'⟩ := T.lent i d q
      have ni : i ∉ us := fun z => (wipeE_at q).2 (hu i z)
      exact ⟨⟨d', by rw [wipeE_off ni]; exact e'⟩, by rw [← ww, wipe_off ni]; exact s'⟩
  refine ⟨fun i m H' => ∃ G' e' accV acc rest, StepG K (wipeE en1 vs) (wipe σ vs) G1 H1 e' (wipe σ vs) G' H' ∧ wipeE e' vs = e' ∧ G' D = none ∧ H' D = some (.lst accV) ∧ Reps K G' accV acc ∧ m = ds.length - i ∧ lcO vs vs1 s t it1 s1 t1 f (ds.drop i) e' = some (rest, en2) ∧ rs = acc ++ rest, ⟨ds.length, G1, _, [], [], rs, ?_, wipeE_wipeE, S1.sub.free hD, upd_same, .nil, rfl, p2, rfl⟩, ?_⟩
  · have N := New.own (o := .lst []) S1.sub hD
    exact step_g (N.step S1.wipe)
  rintro i m H2 ⟨G2, e2, accV, acc, rest, T2, w2, gD, hD2, ra, rfl, pl, er⟩
  have nD2 := nobD T2.own
  have gg : Same G1 G2 := T2.ext.g
  obtain ⟨j1, j2⟩ := hJ i G2 H2 gg T2.sr.sub
  by_cases hi : i < ds.length
  · rw [List.drop_eq_getElem_cons hi] at pl
    obtain ⟨e3, q3, pl⟩ := Option.bind_eq_some_iff.mp pl
    obtain ⟨⟨c, e4⟩, q4, pl⟩ := Option.bind_eq_some_iff.mp pl
    rw [w2] at q3
    obtain ⟨j3, j4⟩ := j2 ds[i] (List.getElem?_eq_getElem hi)
    refine .inr ⟨j3, fun H' => ∃ G' e' accV acc rest, StepG K (wipeE en1 vs) (wipe σ vs) G1 H1 e' (wipe σ vs) G' H' ∧ wipeE e' vs = e' ∧ G' D = none ∧ H' D = some (.lst accV) ∧ Reps K G' accV acc ∧ lcO vs vs1 s t it1 s1 t1 f (ds.drop (i + 1)) e' = some (rest, en2) ∧ rs = acc ++ rest,
      fun H' ⟨G', e', aV, a, r, h1, h2, h3, h4, h5, h6, h7⟩ => ⟨ds.length - (i + 1), by omega, G', e', aV, a, r, h1, h2, h3, h4, h5, rfl, h6, h7⟩, fun x H3 hy => ?_⟩
    obtain ⟨G3, N3, r3⟩ := j4 x H3 hy
    have T3 := T2.trans (step_g (N3.step T2.sr))
    have gD3 : G3 D = none := N3.ext.n D _ hD2 (fun z => z) gD
    have hD3 : H3 D = some (.lst accV) := N3.ext.h D _ hD2 fun z => z
    refine ⟨G3, e2, _, e3, T3.sr, r3, q3, fun σ4 G4 H4 T4 k4 => ?_⟩
    have hl4 : σ4.length = σ.length := k4.1.trans (wipe_length σ vs)
    have ww : wipe σ4 vs = wipe σ vs := wipe_wipe (K := K) hts hl4 k4.2
    refine ⟨ww, ?_⟩
    have T34 := T3.trans T4
    have nD4 := nobD T34.own
    have nD3 := nobD T3.own
    have gD4 : G4 D = none := T4.ext.n D _ hD3 nD3 gD3
    have hD4 : H4 D = some (.lst accV) := T4.ext.h D _ hD3 nD3
    refine ⟨G4, e3, c, e4, T4.sr, q4, fun G5 H5 T5 => ?_⟩
    have T35 := T34.trans (step_g T5)
    have nD5 := nobD T35.own
    have gD5 : G5 D = none := T5.ext.n D _ hD4 nD4 gD4
    have hD5 : H5 D = some (.lst accV) := T5.ext.h D _ hD4 nD4
    have ra5 := ra.mono ((N3.ext.g.trans T4.ext.g).trans T5.ext.g)
    have vv : ∀ i ∈ vs, i ∈ vs := fun _ z => z
    cases c with
    | false =>
      refine iteF ⟨G5, wipeE e4 vs, accV, acc, rest, fin vv ww T35, wipeE_wipeE, gD5, hD5, ra5, ?_, er⟩
      exact pl
    | true =>
      obtain ⟨⟨ds1, e6⟩, q6, pl⟩ := Option.bind_eq_some_iff.mp (show ((it1 e4).bind fun z => (lcL vs1 s1 t1 f z.1 (wipeE z.2 vs1)).bind fun y => (lcO vs vs1 s t it1 s1 t1 f (ds.drop (i + 1)) (wipeE y.2 vs)).map fun r => (y.1 ++ r.1, r.2)) = some (rest, en2) from pl)
      obtain ⟨⟨ys, e7⟩, q7, pl⟩ := Option.bind_eq_some_iff.mp pl
      obtain ⟨⟨rest', en3⟩, q8, pl⟩ := Option.map_eq_some_iff.mp pl
      cases pl
      refine iteT ⟨G5, e4, ds1, e6, T5.sr, q6, fun J1 G6 H6 T6 hJ1 => ?_⟩
      have T36 := T35.trans (step_g T6)
      have gD6 : G6 D = none := T6.ext.n D _ hD5 nD5 gD5
      have hD6 : H6 D = some (.lst accV) := T6.ext.h D _ hD5 nD5
      have ra6 := ra5.mono T6.ext.g
      -- the inner walk
      refine ⟨fun j m H' => ∃ G' e' aV a r, StepG K (wipeE en1 vs) (wipe σ vs) G1 H1 e' (wipe σ4 vs1) G' H' ∧ wipeE e' vs1 = e' ∧ Same G6 G' ∧ G' D = none ∧ H' D = some (.lst aV) ∧ Reps K G' aV a ∧ m = ds1.length - j ∧ lcL vs1 s1 t1 f (ds1.drop j) e' = some (r, e7) ∧ acc ++ ys = a ++ r,
        ⟨ds1.length, G6, _, accV, acc, ys, fin hv rfl T36, wipeE_wipeE, Same.refl _, gD6, hD6, ra6, rfl, q7, rfl⟩, ?_⟩
      rintro j m1 I2 ⟨L2, g2, bV, b, r2, U2, x2, gs, kD, kD2, rb, rfl, ql, fr⟩
      have mD2 := nobD U2.own
      obtain ⟨l1, l2⟩ := hJ1 j L2 I2 gs U2.sr.sub
      by_cases hj : j < ds1.length
      · rw [List.drop_eq_getElem_cons hj] at ql
        obtain ⟨g3, r3', ql⟩ := Option.bind_eq_some_iff.mp ql
        obtain ⟨⟨c2, g4⟩, r4, ql⟩ := Option.bind_eq_some_iff.mp ql
        rw [x2] at r3'
        obtain ⟨l3, l4⟩ := l2 ds1[j] (List.getElem?_eq_getElem hj)
        refine .inr ⟨l3, fun H' => ∃ G' e' aV a r, StepG K (wipeE en1 vs) (wipe σ vs) G1 H1 e' (wipe σ4 vs1) G' H' ∧ wipeE e' vs1 = e' ∧ Same G6 G' ∧ G' D = none ∧ H' D = some (.lst aV) ∧ Reps K G' aV a ∧ lcL vs1 s1 t1 f (ds1.drop (j + 1)) e' = some (r, e7) ∧ acc ++ ys = a ++ r,
          fun H' ⟨G', e', aV, a, r, h1, h2, h3, h4, h5, h6, h7, h8⟩ => ⟨ds1.length - (j + 1), by omega, G', e', aV, a, r, h1, h2, h3, h4, h5, h6, rfl, h7, h8⟩, fun y I3 hy1 => ?_⟩
        obtain ⟨L3, N4, r5⟩ := l4 y I3 hy1
        have U3 := U2.trans (step_g (N4.step U2.sr))
        have kD3 : L3 D = none := N4.ext.n D _ kD2 (fun z => z) kD
        have hkD3 : I3 D = some (.lst bV) := N4.ext.h D _ kD2 fun z => z
        refine ⟨L3, g2, _, g3, U3.sr, r5, r3', fun σ5 L4 I4 T7 k5 => ?_⟩
        have hl5 : σ5.length = σ4.length := k5.1.trans (wipe_length σ4 vs1)
        have ww1 : wipe σ5 vs1 = wipe σ4 vs1 := wipe_wipe (K := K) hts1 hl5 k5.2
        refine ⟨ww1, ?_⟩
        have U4 := U3.trans T7
        have mD3 := nobD U3.own
        have mD4 := nobD U4.own
        have kD4 : L4 D = none := T7.ext.n D _ hkD3 mD3 kD3
        have hkD4 : I4 D = some (.lst bV) := T7.ext.h D _ hkD3 mD3
        refine ⟨L4, g3, c2, g4, T7.sr, r4, fun L5 I5 T8 => ?_⟩
        have U5 := U4.trans (step_g T8)
        have mD5 := nobD U5.own
        have kD5 : L5 D = none := T8.ext.n D _ hkD4 mD4 kD4
        have hkD5 : I5 D = some (.lst bV) := T8.ext.h D _ hkD4 mD4
        have gs5 := gs.trans ((N4.ext.g.trans T7.ext.g).trans T8.ext.g)
        have rb5 := rb.mono ((N4.ext.g.trans T7.ext.g).trans T8.ext.g)
        cases c2 with
        | false =>
          refine iteF ⟨L5, wipeE g4 vs1, bV, b, r2, fin hv ww1 U5, wipeE_wipeE, gs5, kD5, hkD5, rb5, ?_, fr⟩
          exact ql
        | true =>
          obtain ⟨⟨w, g6⟩, q9, ql⟩ := Option.bind_eq_some_iff.mp (show ((f g4).bind fun y => (lcL vs1 s1 t1 f (ds1.drop (j + 1)) (wipeE y.2 vs1)).map fun r => (y.1 :: r.1, r.2)) = some (r2, e7) from ql)
          obtain ⟨⟨r2', g7⟩, q10, ql⟩ := Option.map_eq_some_iff.mp ql
          cases ql
          refine iteT ⟨L5, g4, w, g6, T8.sr, q9, fun wv L6 I6 T9 rw_ => ?_⟩
          have U6 := U5.trans (step_g T9)
          have kD6 : L6 D = none := T9.ext.n D _ hkD5 mD5 kD5
          have hkD6 : I6 D = some (.lst bV) := T9.ext.h D _ hkD5 mD5
          have rb6 := rb5.mono T9.ext.g
          have U7 := fin hv ww1 U6
          refine ⟨bV, hkD6, ?_, L6, wipeE g6 vs1, bV ++ [wv], b ++ [w], r2', ⟨U7.ext.nobody hD, U7.sr.nobody hkD6 kD6 (nobD U7.own), U7.own, U7.lent⟩, wipeE_wipeE, gs5.trans T9.ext.g, kD6, upd_same, rb6.append (.cons rw_ .nil), q10, by rw [fr, List.append_assoc]; rfl⟩
          have hz' : rs.length ≤ sizeLine := hz
          have h1 := rb.length
          have h2 : rs.length = acc.length + (ys.length + rest'.length) := by rw [er]; simp only [List.length_append]
          have h3 : acc.length + ys.length = b.length + (r2'.length + 1) := by
            have := congrArg List.length fr
            simp only [List.length_append, List.length_cons] at this
            exact this
          omega
      · rw [List.drop_eq_nil_of_le (by omega)] at ql
        cases ql
        refine .inl ⟨l1 (by omega), ?_⟩
        have er2 : acc ++ ys = b := by rw [fr, List.append_nil]
        have e8 : wipe (wipe σ4 vs1) vs = wipe σ vs := by rw [wipe_in hv, ww]
        exact ⟨L2, wipeE e7 vs, bV, b, rest', fin vv e8 U2, wipeE_wipeE, kD, kD2, rb, q8, by rw [er, ← List.append_assoc, er2]⟩
  · rw [List.drop_eq_nil_of_le (by omega)] at pl
    cases pl
    refine .inl ⟨j1 (by omega), ?_⟩
    have B := T2.back S1
    have er2 : rs = acc := by rw [er, List.append_nil]
    refine k _ G2 H2 (T1.trans B) (Res.new (.inl (T1.ext.t D hD)) (fun q => ?_) hD2 gD (.lst (er2 ▸ ra)))
    obtain ⟨o, ho, _⟩ := S1.there (B.own D q)
    rw [hD] at ho
    cases ho
theorem fe_lc2 {R R1 : Given} {elt tg iter tg1 iter1 : Expr} {ifs ifs1 : List Expr} {scope : Scope} {own : List (Str × Nat)} {vs1 ts ts1 : List Nat} {it it1 : Lv} {s s1 : Gv} {t t1 : Tv} {f : Vv} (hc : X.calm = true) (hN : X.N.Nodup) (hi : PI X tg iter (FI R X.K it)) (ok : BlkOk X.N X.env.scope scope own) (hv : ∀ i ∈ vs1, i ∈ own.map (·.2)) (hts : ∀ i ∈ ts, i ∈ own.map (·.2)) (hts1 : ∀ i ∈ ts1, i ∈ vs1)
    (hg : ∀ (s' : Shared) (H : Hp) (C : Addr) (cl : List (Str × Addr)) (fp : List Addr), PG (X.blk s' H scope (compEnvC scope cl C X.env) fp) tg (FG R X.K ts s))
    (ht : ∀ (s' : Shared) (H : Hp) (C : Addr) (cl : List (Str × Addr)) (fp : List Addr), PTs (X.blk s' H scope (compEnvC scope cl C X.env) fp) ifs (FT X.K t))
    (hi1 : ∀ (s' : Shared) (H : Hp) (C : Addr) (cl : List (Str × Addr)) (fp : List Addr), PI (X.blk s' H scope (compEnvC scope cl C X.env) fp) tg1 iter1 (FI R1 X.K it1))
    (hg1 : ∀ (s' : Shared) (H : Hp) (C : Addr) (cl : List (Str × Addr)) (fp : List Addr), PG (X.blk s' H scope (compEnvC scope cl C X.env) fp) tg1 (FG R1 X.K ts1 s1))
    (ht1 : ∀ (s' : Shared) (H : Hp) (C : Addr) (cl : List (Str × Addr)) (fp : List Addr), PTs (X.blk s' H scope (compEnvC scope cl C X.env) fp) ifs1 (FT X.K t1))
    (he : ∀ (s' : Shared) (H : Hp) (C : Addr) (cl : List (Str × Addr)) (fp : List Addr), PE (X.blk s' H scope (compEnvC scope cl C X.env) fp) elt (FV X.K f)) (hs : ∀ x, foldedSetIterable iter X.env x = pure x := by intro _; rfl) (hs1 : ∀ env x, foldedSetIterable iter1 env x = pure x := by intro _ _; rfl) :
    PE X (.ListComp elt [⟨tg, iter, ifs, 0⟩, ⟨tg1, iter1, ifs1, 0⟩] scope pos) (FE X.K (fLc2 (own.map (·.2)) vs1 it s t it1 s1 t1 f)) := pe_imp (pe_lc2 hc hN hi ok hv hg ht hi1 hg1 ht1 he hs hs1) fun _ _ _ h => lc2_of hts hts1 hv h
theorem fs_setLc2 {R R1 : Given} {i : Nat} {y : Str} {py spos : Pos} {elt tg iter tg1 iter1 : Expr} {ifs ifs1 : List Expr} {scope : Scope} {own : List (Str × Nat)} {vs1 ts ts1 : List Nat} {it it1 : Lv} {s s1 : Gv} {t t1 : Tv} {f : Vv} (hc : X.calm = true) (hN : X.N.Nodup) (hi : PI X tg iter (FI R X.K it)) (ok : BlkOk X.N X.env.scope scope own) (hv : ∀ i ∈ vs1, i ∈ own.map (·.2)) (hts : ∀ i ∈ ts, i ∈ own.map (·.2)) (hts1 : ∀ i ∈ ts1, i ∈ vs1)
    (hg : ∀ (s' : Shared) (H : Hp) (C : Addr) (cl : List (Str × Addr)) (fp : List Addr), PG (X.blk s' H scope (compEnvC scope cl C X.env) fp) tg (FG R X.K ts s))
    (ht : ∀ (s' : Shared) (H : Hp) (C : Addr) (cl : List (Str × Addr)) (fp : List Addr), PTs (X.blk s' H scope (compEnvC scope cl C X.env) fp) ifs (FT X.K t))
    (hi1 : ∀ (s' : Shared) (H : Hp) (C : Addr) (cl : List (Str × Addr)) (fp : List Addr), PI (X.blk s' H scope (compEnvC scope cl C X.env) fp) tg1 iter1 (FI R1 X.K it1))
    (hg1 : ∀ (s' : Shared) (H : Hp) (C : Addr) (cl : List (Str × Addr)) (fp : List Addr), PG (X.blk s' H scope (compEnvC scope cl C X.env) fp) tg1 (FG R1 X.K ts1 s1))
    (ht1 : ∀ (s' : Shared) (H : Hp) (C : Addr) (cl : List (Str × Addr)) (fp : List Addr), PTs (X.blk s' H scope (compEnvC scope cl C X.env) fp) ifs1 (FT X.K t1))
    (he : ∀ (s' : Shared) (H : Hp) (C : Addr) (cl : List (Str × Addr)) (fp : List Addr), PE (X.blk s' H scope (compEnvC scope cl C X.env) fp) elt (FV X.K f))
    (hy : X.N[i]? = some y := by rfl) (hyl : X.env.scope.names.lookup y = some .local := by rfl) (hsw : swapsWith (.ListComp elt [⟨tg, iter, ifs, 0⟩, ⟨tg1, iter1, ifs1, 0⟩] scope pos) (some (.Name y py)) spos.line X.env = pure true := by exact sw_true rfl rfl rfl (by decide +kernel)) (hs : ∀ x, foldedSetIterable iter X.env x = pure x := by intro _; rfl) (hs1 : ∀ env x, foldedSetIterable iter1 env x = pure x := by intro _ _; rfl) :
    PS X (.Assign [.Name y py] (.ListComp elt [⟨tg, iter, ifs, 0⟩, ⟨tg1, iter1, ifs1, 0⟩] scope pos) spos) (FS X.K (sSet i (fLc2 (own.map (·.2)) vs1 it s t it1 s1 t1 f))) := ps_imp (ps_setLc2 hc hN hy hyl hsw hi ok hv hg ht hi1 hg1 ht1 he hs hs1) fun D σ H ⟨G, en, o, en', S, e1, k⟩ => by
  obtain ⟨⟨d, b, en1⟩, p1, e2⟩ := Option.bind_eq_some_iff.mp e1
  obtain ⟨hl, e3⟩ := ite_some e2
  cases e3
  exact lc2_of hts hts1 hv ⟨G, en, d, b, en1, S, p1, fun v G1 H1 T r => k G1 H1 _ (T.s.store hl r)⟩
end
end Fx
/-! Fx19: xs[::-1], sorted(set(..)) of whole numbers. -/
namespace Fx
open PySem PySem.Spec L2
open PyProof.Rows (IntsAre)
section
variable {X : Cx} {e : Expr} {p1 p2 p3 pos : Pos}
/-! ### xs[::-1] -/
def dRev : D → Option (D × Bool)
  | .list ds => some (.list ds.reverse, true)
  | _ => none
theorem reps_rev {K : PySem.W.Frag} {G : Hp} : ∀ {xs : List V} {ds : List D}, Reps K G xs ds → Reps K G xs.reverse ds.reverse
  | _, _, .nil => .nil
  | _, _, .cons h t => by
    rw [List.reverse_cons, List.reverse_cons]
    exact (reps_rev t).append (.cons h .nil)
def rRev (K : PySem.W.Frag) : V → Hp → VK → Prop := fun x H Q => ∃ a xs, x = .ref a ∧ SqL K H a xs ∧ ∀ p, H p = none → Q (.ref p) (upd H p (.lst xs.reverse))
theorem o1_rev {K : PySem.W.Frag} : Op1 K (rRev K) dRev := fun x d z b G H Q s u hg k => by
  unfold dRev at hg
  split at hg
  · cases hg
    obtain ⟨a, xs, rfl, h, r⟩ := u.list s
    exact ⟨a, xs, rfl, h, fun p hp => k _ _ _ (New.own s hp) (Fresh.new s hp (.lst (reps_rev r)))⟩
  · cases hg
theorem fe_rev {p : Ov} {k : Nat} (ha : PE X e (FO X.K p)) : PE X (.Subscript e (.Slice none none (some (.UnaryOp .USub (.Constant (.int 1) k p1) p2)) p3) pos) (FE X.K (f1 p dRev)) :=
  pe_imp (pe_revL ha) fun _ _ _ h => t1_of (r := rRev X.K) o1_rev h
end
/-! ### sets of whole numbers in order -/
def insU (k : Int) : List Int → List Int
  | [] => [k]
  | x :: xs => if k < x then k :: x :: xs else if k = x then x :: xs else x :: insU k xs
def setI (ns : List Int) : List Int := ns.foldr insU []
theorem insU_mem {k j : Int} : ∀ {xs : List Int}, j ∈ insU k xs ↔ j = k ∨ j ∈ xs
  | [] => by simp [insU]
  | x :: xs => by
    unfold insU
    split
    · simp
    · split
      · rename_i e
        subst e
        simp
      · simp only [List.mem_cons, insU_mem (xs := xs)]
        constructor
        · rintro (h | h | h) <;> simp [h]
        · rintro (h | h | h) <;> simp [h]
theorem insU_lt {k : Int} : ∀ {xs : List Int}, xs.Pairwise (· < ·) → (insU k xs).Pairwise (· < ·)
  | [], _ => by simp [insU]
  | x :: xs, h => by
    obtain ⟨h1, h2⟩ := List.pairwise_cons.mp h
    unfold insU
    split
    · rename_i hk
      refine List.pairwise_cons.mpr ⟨fun y hy => ?_, h⟩
      rcases List.mem_cons.mp hy with rfl | hy
      · exact hk
      · have := h1 y hy
        omega
    · split
      · exact h
      · refine List.pairwise_cons.mpr ⟨fun y hy => ?_, insU_lt h2⟩
        rcases insU_mem.mp hy with rfl | hy
        · omega
        · exact h1 y hy
theorem setI_mem {j : Int} : ∀ {ns : List Int}, j ∈ setI ns ↔ j ∈ ns
  | [] => by simp [setI]
  | n :: ns => by
    show j ∈ insU n (setI ns) ↔ _
    rw [insU_mem, setI_mem (ns := ns), List.mem_cons]
theorem setI_lt : ∀ {ns : List Int}, (setI ns).Pairwise (· < ·)
  | [] => .nil
  | n :: ns => insU_lt (setI_lt (ns := ns))
theorem lt_uniq : ∀ {xs ys : List Int}, xs.Pairwise (· < ·) → ys.Pairwise (· < ·) → (∀ k, k ∈ xs ↔ k ∈ ys) → xs = ys
  | [], [], _, _, _ => rfl
  | [], y :: ys, _, _, h => by have := (h y).mpr (List.mem_cons_self ..); cases this
  | x :: xs, [], _, _, h => by have := (h x).mp (List.mem_cons_self ..); cases this
  | x :: xs, y :: ys, hx, hy, h => by
    obtain ⟨a1, a2⟩ := List.pairwise_cons.mp hx
    obtain ⟨b1, b2⟩ := List.pairwise_cons.mp hy
    have e : x = y := by
      rcases List.mem_cons.mp ((h x).mp (List.mem_cons_self ..)) with q | q
      · exact q
      · rcases List.mem_cons.mp ((h y).mpr (List.mem_cons_self ..)) with r | r
        · exact r.symm
        · have := a1 y r
          have := b1 x q
          omega
    subst e
    refine congrArg (x :: ·) (lt_uniq a2 b2 fun k => ⟨fun q => ?_, fun q => ?_⟩)
    · rcases List.mem_cons.mp ((h k).mp (List.mem_cons_of_mem _ q)) with r | r
      · have := a1 k q
        omega
      · exact r
    · rcases List.mem_cons.mp ((h k).mpr (List.mem_cons_of_mem _ q)) with r | r
      · have := b1 k q
        omega
      · exact r
theorem nodup_len : ∀ {xs ys : List Int}, xs.Nodup → ys.Nodup → (∀ k, k ∈ xs ↔ k ∈ ys) → xs.length = ys.length := fun {xs ys} hx hy h => by
  have le : ∀ {xs ys : List Int}, xs.Nodup → (∀ k, k ∈ xs → k ∈ ys) → xs.length ≤ ys.length := by
    intro xs
    induction xs with
    | nil => intro ys _ _; exact Nat.zero_le _
    | cons x xs ih =>
      intro ys d hh
      obtain ⟨d1, d2⟩ := List.nodup_cons.mp d
      have hm := hh x (List.mem_cons_self ..)
      have := ih (ys := ys.erase x) d2 fun k hk => by
        have ne : k ≠ x := fun z => d1 (z ▸ hk)
        exact (List.mem_erase_of_ne ne).mpr (hh k (List.mem_cons_of_mem _ hk))
      rw [List.length_erase_of_mem hm] at this
      have := List.length_pos_of_mem hm
      rw [List.length_cons]
      omega
  exact Nat.le_antisymm (le hx fun k => (h k).mp) (le hy fun k => (h k).mpr)
theorem setR_len {w : World} {h : Heap} {a : Addr} {ns : List Int} {c : Nat} (R : SetR w h a (fun j => decide (j ∈ ns)) c) : c = (setI ns).length := by
  obtain ⟨o, es, ep, t, ho, hex, hd, g, nd, hm, hb, hf, hn, hr, hl⟩ := R
  have e : (es.toList.map L2.keyOf).length = c := by rw [List.length_map, Array.length_toList]; exact hn
  rw [← e]
  exact nodup_len nd (setI_lt.imp fun z => by omega) fun k => by rw [← hm k, decide_eq_true_eq, setI_mem]
section
variable {P : Program} {w : World} {A : Around} {E : Value → Shared → Prop} {s : Shared}
/-- set(l) of a list of whole numbers -/
theorem set_of_list {a : Addr} {vs : Array Value} (ns : List Int) {Q : Value → Shared → Prop} (nh : A.handled = none) (hL : s.heap.IsList a vs) (hI : IntsAre vs.toList ns) (hB : ns.length + 1 < scanBound)
    (k : ∀ (g : Heap) (tk c : Nat), SetR w g s.heap.objs.size (fun j => decide (j ∈ ns)) c → c ≤ ns.length → (∀ b o, s.heap.get? b = some o → g.get? b = some o) → Q (.ref s.heap.objs.size) { s with heap := g, toks := tk }) :
    wpAny (model P w) A (call (.type "set") [.ref a]) Q E s := by
  have vz : vs.size = ns.length := by
    have q := IntsAre.length hI
    rwa [Array.length_toList] at q
  obtain ⟨cm, tm, mro⟩ := F.called_set.mro
  have made := F.called_set.made
  have subs := F.called_set.sub
  refine wpAny_call (codeAny_of_tree ?_)
  show wpAny _ _ (callAny (.type "set") _) _ _ _
  refine wpAny_pure ⟨Code.quiet_builtin _ (by decide +kernel), codeAny_builtin F.entry_type_call ?_⟩
  rw [Around.under_plain (weight_type_call_type "set" [.ref a] []) rfl]
  have f1 := F.called_set.notType
  have f2 := F.called_set.canCreate
  have f3 := F.typeCall_set_1 (.ref a)
  repeat (any_goals (first | assumption | wp_step))

  refine codeAny_mono (code_set_led1 (.ref a) (E := E) (Q₁ := fun r u => r = .ref s.heap.objs.size ∧ u = { s with heap := s.heap.push { cls := .type "set", dict := none, data := .set #[] 0 (.fresh 0 0 (!w.params.followText "set-order")) } }) ⟨rfl, rfl⟩) fun r u hr => ?_
  cases r with
  | error x => exact hr
  | ok fl =>
    cases fl with
    | ret ob =>
      obtain ⟨rfl, rfl⟩ := hr
      have at0 : (s.heap.push ({ cls := .type "set", dict := none, data := .set #[] 0 (.fresh 0 0 (!w.params.followText "set-order")) })).get? s.heap.objs.size = some { cls := .type "set", dict := none, data := .set #[] 0 (.fresh 0 0 (!w.params.followText "set-order")) } := Heap.get?_push_size _ rfl
      have ty0 : Shared.TypeIs { s with heap := s.heap.push ({ cls := .type "set", dict := none, data := .set #[] 0 (.fresh 0 0 (!w.params.followText "set-order")) }) } (.ref s.heap.objs.size) "set" := ⟨_, at0, rfl⟩
      have li := F.called_set.init.lookup
      have bi := F.called_set.init.bind (.ref s.heap.objs.size)
      repeat (any_goals (first | assumption | wp_step))

      refine codeAny_mono (codeAny_call_builtin (R := wants (fun r t => r = .none ∧ ∃ g tk c, t = { s with heap := g, toks := tk } ∧ SetR w g s.heap.objs.size (fun j => decide (j ∈ ns)) c ∧ c ≤ ns.length ∧ ∀ b o, s.heap.get? b = some o → g.get? b = some o) E)
        F.called_set.init.plain F.entry_set_init (check_set_init_1 ty0 ?_)) fun r t ht => ?_
      · obtain ⟨ol, oa, oc, no, od⟩ := hL
        obtain ⟨lc, ld, ldat, ls⟩ := ol
        simp only at oc od
        subst oc; subst od
        have oa' : (s.heap.push ({ cls := .type "set", dict := none, data := .set #[] 0 (.fresh 0 0 (!w.params.followText "set-order")) })).get? a = some { cls := .type "list", dict := ld, data := .seq vs no, slots := ls } := Heap.get?_push_of_some _ oa
        have g1 := F.sub_list_set
        have g2 := F.sub_list_frozenset
        have g3 : (Value.type "list" == Value.type "dict") = false := by decide
        have L1 : (s.heap.push ({ cls := .type "set", dict := none, data := .set #[] 0 (.fresh 0 0 (!w.params.followText "set-order")) })).IsList a vs := ⟨_, oa', rfl, no, rfl⟩
        unfold Builtin.«set.__init__» noKeywords Builtin.Frozenset.updateFrom
        generalize eP : pyIter = PI
        wp_walk
        subst eP

        refine wpAny_pyIter_list (s := { s with heap := s.heap.push ({ cls := .type "set", dict := none, data := .set #[] 0 (.fresh 0 0 (!w.params.followText "set-order")) }) }) L1 ?_
        refine wpAny_bind (wpAny_runValue ?_)
        have ltA : a < s.heap.objs.size := Heap.lt_size oa
        have nh3 : A.in1.in1.in1.handled = none := by simp [nh]
        have szN : (s.heap.push ({ cls := .type "set", dict := none, data := .set #[] 0 (.fresh 0 0 (!w.params.followText "set-order")) })).objs.size = s.heap.objs.size + 1 := Heap.size_push ..
        have neI : a ≠ (s.heap.push ({ cls := .type "set", dict := none, data := .set #[] 0 (.fresh 0 0 (!w.params.followText "set-order")) })).objs.size := by rw [szN]; exact Nat.ne_of_lt (Nat.lt_succ_of_lt ltA)
        have offS : s.heap.objs.size ∉ [(s.heap.push ({ cls := .type "set", dict := none, data := .set #[] 0 (.fresh 0 0 (!w.params.followText "set-order")) })).objs.size, a] := by
          rw [szN]
          simp only [List.mem_cons, List.not_mem_nil, or_false, not_or]
          exact ⟨Nat.ne_of_lt (Nat.lt_succ_self _), Nat.ne_of_gt ltA⟩
        have vals : ∀ (i : Nat) (v : Value), vs[i]? = some v → ∃ j t, ns[i]? = some j ∧ v = .int j t := fun i v hv => by
          have hi : i < ns.length := by rw [← vz]; exact (Array.getElem?_eq_some_iff.mp hv).1
          obtain ⟨t, et⟩ := PyProof.Rows.IntsAre.int_at hI i v (by rw [Array.getElem?_toList]; exact hv)
          refine ⟨ns[i], t, List.getElem?_eq_getElem hi, ?_⟩
          rw [et, List.getD_eq_getElem?_getD, List.getElem?_eq_getElem hi] <;> rfl
        refine set_update_ints ((Walks.list nh3 _ a neI vs).toS) s.heap.objs.size offS ns vz hB vals (vs.size - 0) 0 _ (by omega) (Nat.zero_le _) ⟨⟨_, Heap.get?_push_size _ rfl, rfl, rfl⟩, (L1.push _)⟩ ?s0 ?s1
        case s0 =>
          exact ⟨0, Nat.le_refl 0, setR_new_at (Heap.get?_push_of_some _ at0)⟩
        case s1 =>
          intro u c hm hc hR
          obtain ⟨g, gg, dd, tk, oo⟩ := u
          have x1 : gg = s.gens := hm.gens
          have x2 : dd = s.drawn := hm.drawn
          have x3 : oo = s.os := hm.os
          subst x1; subst x2; subst x3
          show wpAny _ _ _ _ _ _
          refine wpAny_pure ?_
          show wpAny _ _ (ret Value.none) _ _ _
          rw [vz] at hc
          refine wpAny_pure ⟨rfl, g, tk, c, rfl, hR, hc, fun b o hb => ?_⟩
          have lb : b < s.heap.objs.size := Heap.lt_size hb
          refine hm.heap b o ?_ (Heap.get?_push_of_some _ (Heap.get?_push_of_some _ hb))
          simp only [List.mem_cons, List.not_mem_nil, or_false, not_or]
          exact ⟨Nat.ne_of_lt lb, by rw [szN]; exact Nat.ne_of_lt (Nat.lt_succ_of_lt lb)⟩

      · cases r with
        | error x => exact ht
        | ok fl =>
          cases fl with
          | ret v =>
            obtain ⟨rfl, g, tk, c, rfl, hR, hc, hk⟩ := ht
            repeat (any_goals (first | assumption | wp_step))
            exact k _ _ _ hR hc hk
          | _ => exact ht.elim
    | _ => exact hr.elim
end
def rSetL (K : PySem.W.Frag) (w : World) : List V → Hp → VK → Prop := fun vs H Q => ∃ (a : Addr) (ns : List Int), vs = [.ref a] ∧ (SqL K H a (ns.map V.int) ∨ SqT K H a (ns.map V.int)) ∧ ns.length ≤ 1000 ∧ ∀ p, H p = none → Q (.ref p) (upd H p (SetO w p (fun j => decide (j ∈ ns)) (setI ns).length))
section
variable {X : Cx} {e : Expr} {p1 p2 pos pos2 : Pos}
theorem cr_setL (hc : X.calm = true) : CallR X (.type "set") (rSetL X.K X.w) := by
  intro pins s σ H vs us Q I r ⟨a, ns, ev, hq, hl, q⟩
  subst ev
  rw [Vals.ref1 r]
  have hd := I.ok.hd hc
  have sb : ns.length + 1 < scanBound := by unfold scanBound; omega
  have fin : ∀ (g : Heap) (tk c : Nat), SetR X.w g s.heap.objs.size (fun j => decide (j ∈ ns)) c → c ≤ ns.length → (∀ b o, s.heap.get? b = some o → g.get? b = some o) → EP X pins σ Q (.ref s.heap.objs.size) { s with heap := g, toks := tk } := fun g tk c R _ k => by
    have ec := setR_len R
    subst ec
    exact ⟨.ref _, upd H s.heap.objs.size (SetO X.w s.heap.objs.size (fun j => decide (j ∈ ns)) (setI ns).length), I.laid (t' := tk) k (Nat.le_refl _) (setO_new R), rfl, q _ (I.hok.fresh (Nat.le_refl _))⟩
  rcases hq with hq | hq
  · obtain ⟨its, rv, pl, hz⟩ := I.list hq
    exact set_of_list ns hd (show s.heap.IsList a its.toArray from pl.isList) (ints_of_vals rv) sb fin
  · obtain ⟨its, rv, pl, hz⟩ := I.tuple hq
    exact call_set_tupI ns hd (show s.heap.IsTuple a its.toArray from pl) (ints_of_vals rv) sb fin
def lstD : D → Option (List D)
  | .list ds => some ds
  | .tuple ds => some ds
  | _ => none
def dSortSet : List D → Option (D × Bool)
  | [d] => (lstD d).bind fun ds => (intsD ds).bind fun ns => if ns.length ≤ 1000 ∧ (setI ns).length < 64 then some (.list ((setI ns).map .int), true) else none
  | _ => none
theorem reps_ofI {K : PySem.W.Frag} {G : Hp} : ∀ ns : List Int, Reps K G (ns.map V.int) (ns.map .int)
  | [] => .nil
  | n :: ns => .cons (.int _) (reps_ofI ns)
theorem fe_sortSet {l : Av} (hc : X.calm = true) (hm1 : X.mg "sorted" = none) (hm2 : X.mg "set" = none) (ha : PA X [e] (FA X.K l)) (hg1 : Gl X "sorted" := by rfl) (hg2 : Gl X "set" := by rfl) (n1 : starEach [e] X.env = (false, eval e X.env) :: starEach [] X.env := by rfl)
    (n2 : starEach [.Call (.Name "set" p2) [e] [] pos2] X.env = (false, eval (.Call (.Name "set" p2) [e] [] pos2) X.env) :: starEach [] X.env := by rfl) : PE X (.Call (.Name "sorted" p1) [.Call (.Name "set" p2) [e] [] pos2] [] pos) (FE X.K (fN l dSortSet)) :=
  pe_imp (pe_callB (cr_sortedSet hc) hg1 hm1 PyProof.Rows.boot_sorted (pa_cons (pe_callTy (cr_setL hc) hg2 hm2 PyProof.Rows.boot_set ha (by decide) (by decide) n1 rfl) pa_nil n2) (by decide) (by decide) n2 rfl) fun σ H Q h => by
    refine tN_of (r := fun vs H Q => rSetL X.K X.w vs H fun v H1 => rSortedSet X.w [v] H1 Q) ?_ h
    intro vs ds z b G H Q s u hg k
    unfold dSortSet at hg
    split at hg
    · obtain ⟨es, h1, hg⟩ := Option.bind_eq_some_iff.mp hg
      obtain ⟨ns, h2, hg⟩ := Option.bind_eq_some_iff.mp hg
      obtain ⟨⟨h3, h4⟩, hg⟩ := ite_some hg
      cases hg
      obtain ⟨v, rfl, u0⟩ := u.one
      have fin : ∀ p, H p = none → rSortedSet X.w [V.ref p] (upd H p (SetO X.w p (fun j => decide (j ∈ ns)) (setI ns).length)) Q := fun p hp => by
        refine ⟨p, _, _, rfl, upd_same, h4, fun ms q hlt hme hle hq => ?_⟩
        have e : ms = setI ns := lt_uniq hlt setI_lt fun j => by rw [hme, decide_eq_true_eq, setI_mem]
        subst e
        have N := New.own (o := SetO X.w p (fun j => decide (j ∈ ns)) (setI ns).length) s hp
        have N2 := New.own (o := .lst ((setI ns).map V.int)) N.sub hq
        have hq0 : H q = none := N.ext.t q hq
        exact k _ _ _ ⟨N.ext.trans N2.ext fun _ z => z.elim, N2.sub⟩ ⟨q, _, rfl, .inl hq0, fun z => z, upd_same, s.free hq0, .lst (reps_ofI _)⟩
      unfold lstD at h1
      split at h1
      · cases h1
        obtain ⟨a, xs, rfl, h, r⟩ := u0.list s
        exact ⟨a, ns, rfl, .inl (intsD_of r h2 ▸ h), h3, fin⟩
      · cases h1
        obtain ⟨a, xs, rfl, h, r⟩ := u0.tuple s
        exact ⟨a, ns, rfl, .inr (intsD_of r h2 ▸ h), h3, fin⟩
      · cases h1
    · cases hg
end
end Fx
namespace Hd
open PySem PySem.Spec L2 Fx
abbrev recN : Nat := 20
structure Mg (mg : Str → Option Value) : Prop where
  abs : mg "abs" = none
  all : mg "all" = none
  dict : mg "dict" = none
  int : mg "int" = none
  len : mg "len" = none
  list : mg "list" = none
  range : mg "range" = none
  set : mg "set" = none
  sorted : mg "sorted" = none
  tuple : mg "tuple" = none
def b_rule_in : Sv := sSeq (sSet 2 (fLc [3, 4] (itV (fName 0)) (gT 2 (gsCons (gN 3) (gsCons (gN 4) (gsNil)))) (tB1 (f2 (fSlot 3) (fSlot 1) (isI iLe))) (fName 4))) (sRet (fIf (tB1 (f2 (fSlot 2) (toO (fLst (lNil))) (dNe))) (f2 (fSlot 2) (toO (f1 (svO (fC (.int 1))) dNeg)) dIxA) (ofV (fC .none))))
def F_rule_in : List D → Option (D × Bool) := mk0 5 b_rule_in
theorem sc_rule_in : FnScope ["table", "place", "able", "own", "rule"] ["table", "place"] (defScope s_rule_in) := ⟨rfl, rfl, rfl, by decide +kernel, rfl, by decide +kernel, by decide +kernel⟩
theorem fn_rule_in {P : Program} {w : World} {K : PySem.W.Frag} {mg : Str → Option Value} {base : Heap} {f : Addr} {fd : FuncData} (M : Mg mg) (F : FunD K "rule_in" "rule_in" (defArgs s_rule_in) (defBody s_rule_in) (defScope s_rule_in) [] [] f fd)  : FnOk P w K mg base CX0 1 f fd ["table", "place"] (sp0 K 2 F_rule_in) := by
  have hN := sc_rule_in.nd
  refine ok_def0 F sc_rule_in fun cdv A outer s H E hr => ?_
  have hc : (cxOf CX0 P w K mg base ["table", "place", "able", "own", "rule"] "rule_in" (defScope s_rule_in) f cdv A outer s H E).nox.calm = true := rfl
  exact (fs_cons (fs_setLc (i := 2) (own := [("own", 3), ("rule", 4)]) hc hN (fi_val (fv_name (pv 0))) (blkOf (by kernel_rfl)) (by decide) (fun _ _ _ _ _ => (fg_tup hc (fgs_cons (fg_name hN) (fgs_cons (fg_name hN) fgs_nil)))) (fun _ _ _ _ _ => (ft_one (ft_cmp o2_leI op_le (fo_name (pv 3)) (fo_name (pv 1)) (nomark _)))) (fun _ _ _ _ _ => (fv_name (pv 4)))) (fs_one (fs_ret (fe_if (ft_cmp o2_ne (op_neD hr.u64) (fo_name (pv 2)) (fo_e (fe_lst fl_nil)) (nomark _)) (fe_ix o2_ixA (ix_A hr.u1) (fo_name (pv 2)) (fo_e (fe_un o1_neg un_neg (fo_v fv_int))) (fun _ _ => rfl)) (fe_v fv_non)))))
theorem ok_rule_in {P : Program} {w : World} {K : PySem.W.Frag} {mg : Str → Option Value} {base : Heap} {f : Addr} {fd : FuncData} (M : Mg mg) (F : FunD K "rule_in" "rule_in" (defArgs s_rule_in) (defBody s_rule_in) (defScope s_rule_in) [] [] f fd)  (hm : mg "rule_in" = some (.ref f)) : Ow P w K mg base 1 "rule_in" ["table", "place"] (sp0 K 2 F_rule_in) :=
  ⟨f, fd, hm, F.kp, F.bindsN fun _ _ _ _ _ _ us hl => match us, hl with | [_, _], _ => rfl, fn_rule_in M F ⟩
def b_code_for : Sv := sSeq (sSet 2 (fLc [3] (itV (fName 0)) (gN 3) (tB1 (fChain (toO (f2 (fSlot 3) (svO (fC (.int 1))) dIxA)) (fSlot 1) (isI iLe) (isI iLt) (toO (f2 (toO (f2 (fSlot 3) (svO (fC (.int 1))) dIxA)) (toO (f2 (fSlot 3) (svO (fC (.int 2))) dIxA)) (dAdd))))) (fName 3))) (sRet (fIf (tB1 (f2 (fSlot 2) (toO (fLst (lNil))) (dNe))) (f2 (fSlot 2) (svO (fC (.int 0))) dIxA) (ofV (fC .none))))
def F_code_for : List D → Option (D × Bool) := mk0 4 b_code_for
theorem sc_code_for : FnScope ["codes", "address", "able", "one"] ["codes", "address"] (defScope s_code_for) := ⟨rfl, rfl, rfl, by decide +kernel, rfl, by decide +kernel, by decide +kernel⟩
theorem fn_code_for {P : Program} {w : World} {K : PySem.W.Frag} {mg : Str → Option Value} {base : Heap} {f : Addr} {fd : FuncData} (M : Mg mg) (F : FunD K "code_for" "code_for" (defArgs s_code_for) (defBody s_code_for) (defScope s_code_for) [] [] f fd)  : FnOk P w K mg base CX0 1 f fd ["codes", "address"] (sp0 K 2 F_code_for) := by
  have hN := sc_code_for.nd
  refine ok_def0 F sc_code_for fun cdv A outer s H E hr => ?_
  have hc : (cxOf CX0 P w K mg base ["codes", "address", "able", "one"] "code_for" (defScope s_code_for) f cdv A outer s H E).nox.calm = true := rfl
  exact (fs_cons (fs_setLc (i := 2) (own := [("one", 3)]) hc hN (fi_val (fv_name (pv 0))) (blkOf (by kernel_rfl)) (by decide) (fun _ _ _ _ _ => (fg_name hN)) (fun _ _ _ _ _ => (ft_one (ft_chain o2_leI o2_ltI op_le op_lt (fo_e (fe_ix o2_ixA (ix_A hr.u1) (fo_name (pv 3)) (fo_v fv_int) (fun _ _ => rfl))) (fo_name (pv 1)) (fo_e (fe_op o2_add op_addD (fo_e (fe_ix o2_ixA (ix_A hr.u1) (fo_name (pv 3)) (fo_v fv_int) (fun _ _ => rfl))) (fo_e (fe_ix o2_ixA (ix_A hr.u1) (fo_name (pv 3)) (fo_v fv_int) (fun _ _ => rfl))))) (pt_chain op_le op_lt (fo_e (fe_ix o2_ixA (ix_A hr.u1) (fo_name (pv 3)) (fo_v fv_int) (fun _ _ => rfl))) (fo_name (pv 1)) (fo_e (fe_op o2_add op_addD (fo_e (fe_ix o2_ixA (ix_A hr.u1) (fo_name (pv 3)) (fo_v fv_int) (fun _ _ => rfl))) (fo_e (fe_ix o2_ixA (ix_A hr.u1) (fo_name (pv 3)) (fo_v fv_int) (fun _ _ => rfl))))))))) (fun _ _ _ _ _ => (fv_name (pv 3)))) (fs_one (fs_ret (fe_if (ft_cmp o2_ne (op_neD hr.u64) (fo_name (pv 2)) (fo_e (fe_lst fl_nil)) (nomark _)) (fe_ix o2_ixA (ix_A hr.u1) (fo_name (pv 2)) (fo_v fv_int) (fun _ _ => rfl)) (fe_v fv_non)))))
theorem ok_code_for {P : Program} {w : World} {K : PySem.W.Frag} {mg : Str → Option Value} {base : Heap} {f : Addr} {fd : FuncData} (M : Mg mg) (F : FunD K "code_for" "code_for" (defArgs s_code_for) (defBody s_code_for) (defScope s_code_for) [] [] f fd)  (hm : mg "code_for" = some (.ref f)) : Ow P w K mg base 1 "code_for" ["codes", "address"] (sp0 K 2 F_code_for) :=
  ⟨f, fd, hm, F.kp, F.bindsN fun _ _ _ _ _ _ us hl => match us, hl with | [_, _], _ => rfl, fn_code_for M F ⟩
def b_name_for : Sv := sSeq (sSet 2 (fCall 2 (lCons (fName 0) (lCons (fName 1) (lNil))) F_code_for)) (sRet (fIf (tB1 (fIs (fSlot 2) (fun d => !isND d))) (ofV (fTup (lCons (toV (f2 (fSlot 2) (svO (fC (.int 0))) dIxA)) (lCons (toV (f2 (fSlot 1) (toO (f2 (fSlot 2) (svO (fC (.int 1))) dIxA)) (isI iSub))) (lNil))))) (ofV (fC .none))))
def F_name_for : List D → Option (D × Bool) := mk0 3 b_name_for
theorem sc_name_for : FnScope ["codes", "address", "one"] ["codes", "address"] (defScope s_name_for) := ⟨rfl, rfl, rfl, by decide +kernel, rfl, by decide +kernel, by decide +kernel⟩
theorem fn_name_for {P : Program} {w : World} {K : PySem.W.Frag} {mg : Str → Option Value} {base : Heap} {f : Addr} {fd : FuncData} (M : Mg mg) (F : FunD K "name_for" "name_for" (defArgs s_name_for) (defBody s_name_for) (defScope s_name_for) [] [] f fd) (c_code_for : Ow P w K mg base 1 "code_for" ["codes", "address"] (sp0 K 2 F_code_for)) : FnOk P w K mg base CX0 2 f fd ["codes", "address"] (sp0 K 2 F_name_for) := by
  have hN := sc_name_for.nd
  refine ok_def0 F sc_name_for fun cdv A outer s H E hr => ?_
  have hc : (cxOf CX0 P w K mg base ["codes", "address", "one"] "name_for" (defScope s_name_for) f cdv A outer s H E).nox.calm = true := rfl
  exact (fs_cons (fs_set (i := 2) hN (fe_callO c_code_for hr (fl_cons (fv_name (pv 0)) (fl_cons (fv_name (pv 1)) fl_nil)) (by first | decide | omega | (simp only [Nat.add_eq]; omega)))) (fs_one (fs_ret (fe_if (ft_notN (fo_name (pv 2))) (fe_v (fv_tup (fl_cons (fv_e (fe_ix o2_ixA (ix_A hr.u1) (fo_name (pv 2)) (fo_v fv_int) (fun _ _ => rfl))) (fl_cons (fv_e (fe_op o2_sub op_sub (fo_name (pv 1)) (fo_e (fe_ix o2_ixA (ix_A hr.u1) (fo_name (pv 2)) (fo_v fv_int) (fun _ _ => rfl))))) fl_nil)))) (fe_v fv_non)))))
theorem ok_name_for {P : Program} {w : World} {K : PySem.W.Frag} {mg : Str → Option Value} {base : Heap} {f : Addr} {fd : FuncData} (M : Mg mg) (F : FunD K "name_for" "name_for" (defArgs s_name_for) (defBody s_name_for) (defScope s_name_for) [] [] f fd) (c_code_for : Ow P w K mg base 1 "code_for" ["codes", "address"] (sp0 K 2 F_code_for)) (hm : mg "name_for" = some (.ref f)) : Ow P w K mg base 2 "name_for" ["codes", "address"] (sp0 K 2 F_name_for) :=
  ⟨f, fd, hm, F.kp, F.bindsN fun _ _ _ _ _ _ us hl => match us, hl with | [_, _], _ => rfl, fn_name_for M F c_code_for⟩
def b_caller_of : Sv := sSeq (sSet 5 (fCall 2 (lCons (fName 0) (lCons (fName 2) (lNil))) F_code_for)) (sSeq (sSet 6 (fIf (tB1 (fIs (fSlot 5) (fun d => !isND d))) (fCall 2 (lCons (toV (f2 (fSlot 5) (svO (fC (.int 3))) dIxA)) (lCons (toV (f2 (fSlot 2) (toO (f2 (fSlot 5) (svO (fC (.int 1))) dIxA)) (isI iSub))) (lNil))) F_rule_in) (ofV (fC .none)))) (sSeq (sIf (tOrF (tB1 (fIs (fSlot 6) isND)) (tB1 (f2 (toO (f2 (toO (f2 (fSlot 3) (svO (fC (.int 1))) (isI iSub))) (toO (f2 (fSlot 6) (svO (fC (.int 0))) dIxA)) (isI iSub))) (svO (fC (.int 0))) (isI iLt)))) (sRet (ofV (fC .none))) (sNx)) (sSeq (sSet 7 (f2 (toO (f2 (fSlot 3) (svO (fC (.int 1))) (isI iSub))) (toO (f2 (fSlot 6) (svO (fC (.int 0))) dIxA)) (isI iSub))) (sSeq (sSet 8 (fN (aCons (fSlot 4) (aNil)) dDict)) (sSeq (sFor (itV (toV (f2 (fSlot 6) (svO (fC (.int 1))) dIxA))) (gT 2 (gsCons (gN 9) (gsCons (gN 10) (gsNil)))) (sAsg (toV (f2 (fSlot 1) (toO (f2 (fSlot 7) (fSlot 10) (dAdd))) dIxA)) (gSubD 8 (fName 9)))) (sRet (ofV (fTup (lCons (toV (f2 (fSlot 1) (fSlot 7) dIxA)) (lCons (fName 7) (lCons (toV (fN (aCons (toO (f1 (fSlot 8) dSortI)) (aNil)) dTuple)) (lNil))))))))))))
def F_caller_of : List D → Option (D × Bool) := mk0 11 b_caller_of
theorem sc_caller_of : FnScope ["codes", "stack", "address", "top", "registers", "one", "rule", "place", "found", "name", "far"] ["codes", "stack", "address", "top", "registers"] (defScope s_caller_of) := ⟨rfl, rfl, rfl, by decide +kernel, rfl, by decide +kernel, by decide +kernel⟩
theorem fn_caller_of {P : Program} {w : World} {K : PySem.W.Frag} {mg : Str → Option Value} {base : Heap} {f : Addr} {fd : FuncData} (M : Mg mg) (F : FunD K "caller_of" "caller_of" (defArgs s_caller_of) (defBody s_caller_of) (defScope s_caller_of) [] [] f fd) (c_code_for : Ow P w K mg base 1 "code_for" ["codes", "address"] (sp0 K 2 F_code_for)) (c_rule_in : Ow P w K mg base 1 "rule_in" ["table", "place"] (sp0 K 2 F_rule_in)) : FnOk P w K mg base CX0 2 f fd ["codes", "stack", "address", "top", "registers"] (sp0 K 5 F_caller_of) := by
  have hN := sc_caller_of.nd
  refine ok_def0 F sc_caller_of fun cdv A outer s H E hr => ?_
  have hc : (cxOf CX0 P w K mg base ["codes", "stack", "address", "top", "registers", "one", "rule", "place", "found", "name", "far"] "caller_of" (defScope s_caller_of) f cdv A outer s H E).nox.calm = true := rfl
  exact (fs_cons (fs_set (i := 5) hN (fe_callO c_code_for hr (fl_cons (fv_name (pv 0)) (fl_cons (fv_name (pv 2)) fl_nil)) (by first | decide | omega | (simp only [Nat.add_eq]; omega)))) (fs_cons (fs_set (i := 6) hN (fe_if (ft_notN (fo_name (pv 5))) (fe_callO c_rule_in hr (fl_cons (fv_e (fe_ix o2_ixA (ix_A hr.u1) (fo_name (pv 5)) (fo_v fv_int) (fun _ _ => rfl))) (fl_cons (fv_e (fe_op o2_sub op_sub (fo_name (pv 2)) (fo_e (fe_ix o2_ixA (ix_A hr.u1) (fo_name (pv 5)) (fo_v fv_int) (fun _ _ => rfl))))) fl_nil)) (by first | decide | omega | (simp only [Nat.add_eq]; omega))) (fe_v fv_non))) (fs_cons (fs_if (PW.pt (fw_or (ft_isN (fo_name (pv 6))) (fw_or1 (ft_cmp o2_ltI op_lt (fo_e (fe_op o2_sub op_sub (fo_e (fe_op o2_sub op_sub (fo_name (pv 3)) (fo_v fv_int))) (fo_e (fe_ix o2_ixA (ix_A hr.u1) (fo_name (pv 6)) (fo_v fv_int) (fun _ _ => rfl))))) (fo_v fv_int) (nomark _))))) (fs_one (fs_ret (fe_v fv_non))) fs_nil) (fs_cons (fs_set (i := 7) hN (fe_op o2_sub op_sub (fo_e (fe_op o2_sub op_sub (fo_name (pv 3)) (fo_v fv_int))) (fo_e (fe_ix o2_ixA (ix_A hr.u1) (fo_name (pv 6)) (fo_v fv_int) (fun _ _ => rfl))))) (fs_cons (fs_set (i := 8) hN (fe_callTy on_dict (cr_dictOf hc) M.dict (fa_cons (fo_name (pv 4)) fa_nil))) (fs_cons (fs_for PassesOwn.never hc (fi_val (fv_e (fe_ix o2_ixA (ix_A hr.u1) (fo_name (pv 6)) (fo_v fv_int) (fun _ _ => rfl)))) (fg_tup hc (fgs_cons (fg_name hN) (fgs_cons (fg_name hN) fgs_nil))) (fs_one (fs_asg (fv_e (fe_ix o2_ixA (ix_A hr.u1) (fo_name (pv 1)) (fo_e (fe_op o2_add op_addD (fo_name (pv 7)) (fo_name (pv 10)))) (fun _ _ => rfl))) (fg_sub hr.u1 (pv 8) (fv_name (pv 9)))))) (fs_one (fs_ret (fe_v (fv_tup (fl_cons (fv_e (fe_ix o2_ixA (ix_A hr.u1) (fo_name (pv 1)) (fo_name (pv 7)) (fun _ _ => rfl))) (fl_cons (fv_name (pv 7)) (fl_cons (fv_e (fe_callTy on_tuple cr_tupOf M.tuple (fa_cons (fo_e (fe_sortI hc hr.u64 M.sorted (fo_name (pv 8)))) fa_nil))) fl_nil)))))))))))))
theorem ok_caller_of {P : Program} {w : World} {K : PySem.W.Frag} {mg : Str → Option Value} {base : Heap} {f : Addr} {fd : FuncData} (M : Mg mg) (F : FunD K "caller_of" "caller_of" (defArgs s_caller_of) (defBody s_caller_of) (defScope s_caller_of) [] [] f fd) (c_code_for : Ow P w K mg base 1 "code_for" ["codes", "address"] (sp0 K 2 F_code_for)) (c_rule_in : Ow P w K mg base 1 "rule_in" ["table", "place"] (sp0 K 2 F_rule_in)) (hm : mg "caller_of" = some (.ref f)) : Ow P w K mg base 2 "caller_of" ["codes", "stack", "address", "top", "registers"] (sp0 K 5 F_caller_of) :=
  ⟨f, fd, hm, F.kp, F.bindsN fun _ _ _ _ _ _ us hl => match us, hl with | [_, _, _, _, _], _ => rfl, fn_caller_of M F c_code_for c_rule_in⟩
def b_guesses : Sv := sRet (fN (aCons (toO (fLc [4] (itR (aCons (toO (f2 (fSlot 2) (svO (fC (.int 1))) (isI iSub))) (aCons (toO (f1 (svO (fC (.int 1))) dNeg)) (aCons (toO (f1 (svO (fC (.int 1))) dNeg)) (aNil)))) range3D) (gN 4) (tB1 (f2 (toO (f2 (toO (f2 (fSlot 1) (fSlot 4) dIxA)) (svO (fC (.int 1))) (isI iSub))) (fSlot 3) (dIn))) (fName 4))) (aNil)) dTuple)
def F_guesses : List D → Option (D × Bool) := mk0 5 b_guesses
theorem sc_guesses : FnScope ["codes", "stack", "top", "calls", "place"] ["codes", "stack", "top", "calls"] (defScope s_guesses) := ⟨rfl, rfl, rfl, by decide +kernel, rfl, by decide +kernel, by decide +kernel⟩
theorem fn_guesses {P : Program} {w : World} {K : PySem.W.Frag} {mg : Str → Option Value} {base : Heap} {f : Addr} {fd : FuncData} (M : Mg mg) (F : FunD K "guesses" "guesses" (defArgs s_guesses) (defBody s_guesses) (defScope s_guesses) [] [] f fd)  : FnOk P w K mg base CX0 1 f fd ["codes", "stack", "top", "calls"] (sp0 K 4 F_guesses) := by
  have hN := sc_guesses.nd
  refine ok_def0 F sc_guesses fun cdv A outer s H E hr => ?_
  have hc : (cxOf CX0 P w K mg base ["codes", "stack", "top", "calls", "place"] "guesses" (defScope s_guesses) f cdv A outer s H E).nox.calm = true := rfl
  exact (fs_one (fs_ret (fe_callTy on_tuple cr_tupOf M.tuple (fa_cons (fo_e (fe_lc (own := [("place", 4)]) hc hN (fi_range3 M.range (fa_cons (fo_e (fe_op o2_sub op_sub (fo_name (pv 2)) (fo_v fv_int))) (fa_cons (fo_e (fe_un o1_neg un_neg (fo_v fv_int))) (fa_cons (fo_e (fe_un o1_neg un_neg (fo_v fv_int))) fa_nil)))) (blkOf (by kernel_rfl)) (by decide) (fun _ _ _ _ _ => (fg_name hN)) (fun _ _ _ _ _ => (ft_one (ft_cmp o2_in (op_inA hr.u65) (fo_e (fe_op o2_sub op_sub (fo_e (fe_ix o2_ixA (ix_A hr.u1) (fo_name (pv 1)) (fo_name (pv 4)) (fun _ _ => rfl))) (fo_v fv_int))) (fo_name (pv 3)) (by rfl)))) (fun _ _ _ _ _ => (fv_name (pv 4))))) fa_nil))))
theorem ok_guesses {P : Program} {w : World} {K : PySem.W.Frag} {mg : Str → Option Value} {base : Heap} {f : Addr} {fd : FuncData} (M : Mg mg) (F : FunD K "guesses" "guesses" (defArgs s_guesses) (defBody s_guesses) (defScope s_guesses) [] [] f fd)  (hm : mg "guesses" = some (.ref f)) : Ow P w K mg base 1 "guesses" ["codes", "stack", "top", "calls"] (sp0 K 4 F_guesses) :=
  ⟨f, fd, hm, F.kp, F.bindsN fun _ _ _ _ _ _ us hl => match us, hl with | [_, _, _, _], _ => rfl, fn_guesses M F ⟩
def b_guessed_names : Sv := sSeq (sSet 4 (fLc [5] (itV (toV (fCall 4 (lCons (fName 0) (lCons (fName 1) (lCons (fName 2) (lCons (fName 3) (lNil))))) F_guesses))) (gN 5) (tTrue) (toV (fCall 2 (lCons (fName 0) (lCons (toV (f2 (fSlot 1) (fSlot 5) dIxA)) (lNil))) F_name_for)))) (sRet (fN (aCons (toO (fLc [6] (itV (fName 4)) (gN 6) (tB1 (fIs (fSlot 6) (fun d => !isND d))) (toV (f2 (fSlot 6) (svO (fC (.int 0))) dIxA)))) (aNil)) dTuple))
def F_guessed_names : List D → Option (D × Bool) := mk0 7 b_guessed_names
theorem sc_guessed_names : FnScope ["codes", "stack", "top", "calls", "found", "place", "one"] ["codes", "stack", "top", "calls"] (defScope s_guessed_names) := ⟨rfl, rfl, rfl, by decide +kernel, rfl, by decide +kernel, by decide +kernel⟩
theorem fn_guessed_names {P : Program} {w : World} {K : PySem.W.Frag} {mg : Str → Option Value} {base : Heap} {f : Addr} {fd : FuncData} (M : Mg mg) (F : FunD K "guessed_names" "guessed_names" (defArgs s_guessed_names) (defBody s_guessed_names) (defScope s_guessed_names) [] [] f fd) (c_guesses : Ow P w K mg base 1 "guesses" ["codes", "stack", "top", "calls"] (sp0 K 4 F_guesses)) (c_name_for : Ow P w K mg base 2 "name_for" ["codes", "address"] (sp0 K 2 F_name_for)) : FnOk P w K mg base CX0 3 f fd ["codes", "stack", "top", "calls"] (sp0 K 4 F_guessed_names) := by
  have hN := sc_guessed_names.nd
  refine ok_def0 F sc_guessed_names fun cdv A outer s H E hr => ?_
  have hc : (cxOf CX0 P w K mg base ["codes", "stack", "top", "calls", "found", "place", "one"] "guessed_names" (defScope s_guessed_names) f cdv A outer s H E).nox.calm = true := rfl
  exact (fs_cons (fs_setLc (i := 4) (own := [("place", 5)]) hc hN (fi_val (fv_e (fe_callO c_guesses hr (fl_cons (fv_name (pv 0)) (fl_cons (fv_name (pv 1)) (fl_cons (fv_name (pv 2)) (fl_cons (fv_name (pv 3)) fl_nil)))) (by first | decide | omega | (simp only [Nat.add_eq]; omega))))) (blkOf (by kernel_rfl)) (by decide) (fun _ _ _ _ _ => (fg_name hN)) (fun _ _ _ _ _ => ft_none) (fun _ _ _ _ _ => (fv_e (fe_callO c_name_for hr (fl_cons (fv_name (pv 0)) (fl_cons (fv_e (fe_ix o2_ixA (ix_A hr.u1) (fo_name (pv 1)) (fo_name (pv 5)) (fun _ _ => rfl))) fl_nil)) (by first | decide | omega | (simp only [Nat.add_eq]; omega)))))) (fs_one (fs_ret (fe_callTy on_tuple cr_tupOf M.tuple (fa_cons (fo_e (fe_lc (own := [("one", 6)]) hc hN (fi_val (fv_name (pv 4))) (blkOf (by kernel_rfl)) (by decide) (fun _ _ _ _ _ => (fg_name hN)) (fun _ _ _ _ _ => (ft_one (ft_notN (fo_name (pv 6))))) (fun _ _ _ _ _ => (fv_e (fe_ix o2_ixA (ix_A hr.u1) (fo_name (pv 6)) (fo_v fv_int) (fun _ _ => rfl)))))) fa_nil)))))
theorem ok_guessed_names {P : Program} {w : World} {K : PySem.W.Frag} {mg : Str → Option Value} {base : Heap} {f : Addr} {fd : FuncData} (M : Mg mg) (F : FunD K "guessed_names" "guessed_names" (defArgs s_guessed_names) (defBody s_guessed_names) (defScope s_guessed_names) [] [] f fd) (c_guesses : Ow P w K mg base 1 "guesses" ["codes", "stack", "top", "calls"] (sp0 K 4 F_guesses)) (c_name_for : Ow P w K mg base 2 "name_for" ["codes", "address"] (sp0 K 2 F_name_for)) (hm : mg "guessed_names" = some (.ref f)) : Ow P w K mg base 3 "guessed_names" ["codes", "stack", "top", "calls"] (sp0 K 4 F_guessed_names) :=
  ⟨f, fd, hm, F.kp, F.bindsN fun _ _ _ _ _ _ us hl => match us, hl with | [_, _, _, _], _ => rfl, fn_guessed_names M F c_guesses c_name_for⟩
def b_false_guesses : Sv := sSeq (sParN [6, 7] (mCons (fLst (lNil)) (mCons (ofV (fTup (lCons (fName 2) (lCons (fName 3) (lCons (fName 4) (lNil)))))) (mNil)))) (sSeq (whileL (tAndF (tB1 (fIs (fSlot 7) (fun d => !isND d))) (tB1 (fIs (toO (fCall 2 (lCons (fName 0) (lCons (toV (f2 (fSlot 7) (svO (fC (.int 0))) dIxA)) (lNil))) F_name_for)) (fun d => !isND d)))) (sSeq (sSet 7 (fCall 5 (lCons (fName 0) (lCons (fName 1) (lCons (toV (f2 (fSlot 7) (svO (fC (.int 0))) dIxA)) (lCons (toV (f2 (fSlot 7) (svO (fC (.int 1))) dIxA)) (lCons (toV (f2 (fSlot 7) (svO (fC (.int 2))) dIxA)) (lNil)))))) F_caller_of)) (sExpr (fMut 6 isLst (lCons (toV (fIf (tB1 (fIs (fSlot 7) (fun d => !isND d))) (fLst (lCons (toV (f2 (fSlot 7) (svO (fC (.int 1))) dIxA)) (lNil))) (fLst (lNil)))) (lNil)) mExtG))) fuelN) (sRet (fN (aCons (toO (fN (aCons (toO (fLc [8] (itV (toV (fCall 4 (lCons (fName 0) (lCons (fName 1) (lCons (fName 3) (lCons (fName 5) (lNil))))) F_guesses))) (gN 8) (tB1 (f2 (fSlot 8) (fSlot 6) (dNotIn))) (fName 8))) (aNil)) dSort)) (aNil)) dTuple)))
def F_false_guesses : List D → Option (D × Bool) := mk0 9 b_false_guesses
theorem sc_false_guesses : FnScope ["codes", "stack", "address", "top", "registers", "calls", "right", "now", "place"] ["codes", "stack", "address", "top", "registers", "calls"] (defScope s_false_guesses) := ⟨rfl, rfl, rfl, by decide +kernel, rfl, by decide +kernel, by decide +kernel⟩
theorem fn_false_guesses {P : Program} {w : World} {K : PySem.W.Frag} {mg : Str → Option Value} {base : Heap} {f : Addr} {fd : FuncData} (M : Mg mg) (F : FunD K "false_guesses" "false_guesses" (defArgs s_false_guesses) (defBody s_false_guesses) (defScope s_false_guesses) [] [] f fd) (c_name_for : Ow P w K mg base 2 "name_for" ["codes", "address"] (sp0 K 2 F_name_for)) (c_caller_of : Ow P w K mg base 2 "caller_of" ["codes", "stack", "address", "top", "registers"] (sp0 K 5 F_caller_of)) (c_guesses : Ow P w K mg base 1 "guesses" ["codes", "stack", "top", "calls"] (sp0 K 4 F_guesses)) : FnOk P w K mg base CX0 3 f fd ["codes", "stack", "address", "top", "registers", "calls"] (sp0 K 6 F_false_guesses) := by
  have hN := sc_false_guesses.nd
  refine ok_def0 F sc_false_guesses fun cdv A outer s H E hr => ?_
  have hc : (cxOf CX0 P w K mg base ["codes", "stack", "address", "top", "registers", "calls", "right", "now", "place"] "false_guesses" (defScope s_false_guesses) f cdv A outer s H E).nox.calm = true := rfl
  exact (fs_cons (fs_parT hc (gns_cons (i := 6) hN (gns_cons (i := 7) hN gns_nil)) (fm_cons (fe_lst fl_nil) (fm_cons (fe_v (fv_tup (fl_cons (fv_name (pv 2)) (fl_cons (fv_name (pv 3)) (fl_cons (fv_name (pv 4)) fl_nil))))) fm_nil))) (fs_cons (fs_while PassesOwn.never (PW.pt (fw_and (ft_notN (fo_name (pv 7))) (fw_and1 (ft_notN (fo_e (fe_callO c_name_for hr (fl_cons (fv_name (pv 0)) (fl_cons (fv_e (fe_ix o2_ixA (ix_A hr.u1) (fo_name (pv 7)) (fo_v fv_int) (fun _ _ => rfl))) fl_nil)) (by first | decide | omega | (simp only [Nat.add_eq]; omega)))))))) (fs_cons (fs_set (i := 7) hN (fe_callO c_caller_of hr (fl_cons (fv_name (pv 0)) (fl_cons (fv_name (pv 1)) (fl_cons (fv_e (fe_ix o2_ixA (ix_A hr.u1) (fo_name (pv 7)) (fo_v fv_int) (fun _ _ => rfl))) (fl_cons (fv_e (fe_ix o2_ixA (ix_A hr.u1) (fo_name (pv 7)) (fo_v fv_int) (fun _ _ => rfl))) (fl_cons (fv_e (fe_ix o2_ixA (ix_A hr.u1) (fo_name (pv 7)) (fo_v fv_int) (fun _ _ => rfl))) fl_nil))))) (by first | decide | omega | (simp only [Nat.add_eq]; omega)))) (fs_one (fs_expr (fe_mut (kindL _) om_ext PySem.F.plainAttrs_list PySem.F.slot_list_extend PySem.F.type_list_extend mt_ext (pv 6) (fl_cons (fv_e (fe_if (ft_notN (fo_name (pv 7))) (fe_lst (fl_cons (fv_e (fe_ix o2_ixA (ix_A hr.u1) (fo_name (pv 7)) (fo_v fv_int) (fun _ _ => rfl))) fl_nil)) (fe_lst fl_nil))) fl_nil)))))) (fs_one (fs_ret (fe_callTy on_tuple cr_tupOf M.tuple (fa_cons (fo_e (fe_callB on_sort (cr_sortG hc hr.u64) M.sorted (fa_cons (fo_e (fe_lc (own := [("place", 8)]) hc hN (fi_val (fv_e (fe_callO c_guesses hr (fl_cons (fv_name (pv 0)) (fl_cons (fv_name (pv 1)) (fl_cons (fv_name (pv 3)) (fl_cons (fv_name (pv 5)) fl_nil)))) (by first | decide | omega | (simp only [Nat.add_eq]; omega))))) (blkOf (by kernel_rfl)) (by decide) (fun _ _ _ _ _ => (fg_name hN)) (fun _ _ _ _ _ => (ft_one (ft_cmp o2_notIn (op_notInA hr.u65) (fo_name (pv 8)) (fo_name (pv 6)) (by rfl)))) (fun _ _ _ _ _ => (fv_name (pv 8))))) fa_nil))) fa_nil))))))
theorem ok_false_guesses {P : Program} {w : World} {K : PySem.W.Frag} {mg : Str → Option Value} {base : Heap} {f : Addr} {fd : FuncData} (M : Mg mg) (F : FunD K "false_guesses" "false_guesses" (defArgs s_false_guesses) (defBody s_false_guesses) (defScope s_false_guesses) [] [] f fd) (c_name_for : Ow P w K mg base 2 "name_for" ["codes", "address"] (sp0 K 2 F_name_for)) (c_caller_of : Ow P w K mg base 2 "caller_of" ["codes", "stack", "address", "top", "registers"] (sp0 K 5 F_caller_of)) (c_guesses : Ow P w K mg base 1 "guesses" ["codes", "stack", "top", "calls"] (sp0 K 4 F_guesses)) (hm : mg "false_guesses" = some (.ref f)) : Ow P w K mg base 3 "false_guesses" ["codes", "stack", "address", "top", "registers", "calls"] (sp0 K 6 F_false_guesses) :=
  ⟨f, fd, hm, F.kp, F.bindsN fun _ _ _ _ _ _ us hl => match us, hl with | [_, _, _, _, _, _], _ => rfl, fn_false_guesses M F c_name_for c_caller_of c_guesses⟩
def b_moved : Sv := sRet (fN (aCons (toO (fLc [2, 3, 4, 5] (itV (fName 0)) (gT 4 (gsCons (gN 2) (gsCons (gN 3) (gsCons (gN 4) (gsCons (gN 5) (gsNil)))))) (tTrue) (fTup (lCons (fName 2) (lCons (toV (f2 (fSlot 3) (fSlot 1) (dAdd))) (lCons (fName 4) (lCons (fName 5) (lNil)))))))) (aNil)) dTuple)
def F_moved : List D → Option (D × Bool) := mk0 6 b_moved
theorem sc_moved : FnScope ["codes", "by", "name", "begin", "size", "table"] ["codes", "by"] (defScope s_moved) := ⟨rfl, rfl, rfl, by decide +kernel, rfl, by decide +kernel, by decide +kernel⟩
theorem fn_moved {P : Program} {w : World} {K : PySem.W.Frag} {mg : Str → Option Value} {base : Heap} {f : Addr} {fd : FuncData} (M : Mg mg) (F : FunD K "moved" "moved" (defArgs s_moved) (defBody s_moved) (defScope s_moved) [] [] f fd)  : FnOk P w K mg base CX0 1 f fd ["codes", "by"] (sp0 K 2 F_moved) := by
  have hN := sc_moved.nd
  refine ok_def0 F sc_moved fun cdv A outer s H E hr => ?_
  have hc : (cxOf CX0 P w K mg base ["codes", "by", "name", "begin", "size", "table"] "moved" (defScope s_moved) f cdv A outer s H E).nox.calm = true := rfl
  exact (fs_one (fs_ret (fe_callTy on_tuple cr_tupOf M.tuple (fa_cons (fo_e (fe_lc (own := [("name", 2), ("begin", 3), ("size", 4), ("table", 5)]) hc hN (fi_val (fv_name (pv 0))) (blkOf (by kernel_rfl)) (by decide) (fun _ _ _ _ _ => (fg_tup hc (fgs_cons (fg_name hN) (fgs_cons (fg_name hN) (fgs_cons (fg_name hN) (fgs_cons (fg_name hN) fgs_nil)))))) (fun _ _ _ _ _ => ft_none) (fun _ _ _ _ _ => (fv_tup (fl_cons (fv_name (pv 2)) (fl_cons (fv_e (fe_op o2_add op_addD (fo_name (pv 3)) (fo_name (pv 1)))) (fl_cons (fv_name (pv 4)) (fl_cons (fv_name (pv 5)) fl_nil)))))))) fa_nil))))
theorem ok_moved {P : Program} {w : World} {K : PySem.W.Frag} {mg : Str → Option Value} {base : Heap} {f : Addr} {fd : FuncData} (M : Mg mg) (F : FunD K "moved" "moved" (defArgs s_moved) (defBody s_moved) (defScope s_moved) [] [] f fd)  (hm : mg "moved" = some (.ref f)) : Ow P w K mg base 1 "moved" ["codes", "by"] (sp0 K 2 F_moved) :=
  ⟨f, fd, hm, F.kp, F.bindsN fun _ _ _ _ _ _ us hl => match us, hl with | [_, _], _ => rfl, fn_moved M F ⟩
def b_offsets_for : Sv := sSeq (sSet 2 (fLc2 [3, 4, 5, 6] [6] (itV (fName 0)) (gT 4 (gsCons (gN 3) (gsCons (gN 4) (gsCons (gN 5) (gsCons (gN 3) (gsNil)))))) (tTrue) (itR (aCons (fSlot 4) (aCons (toO (f2 (fSlot 4) (fSlot 5) (dAdd))) (aNil))) range2D) (gN 6) (tTrue) (fName 6))) (sSeq (sSet 7 (fLc [6] (itV (fName 2)) (gN 6) (tTrue) (toV (f2 (toO (f2 (fSlot 1) (svO (fC (.int 0))) dIxA)) (fSlot 6) (isI iSub))))) (sRet (fN (aCons (toO (fLc [8] (itV (toV (fN (aCons (fSlot 7) (aNil)) dSort))) (gN 8) (tB1 (fN (aCons (toO (fLc [9] (itV (fName 1)) (gN 9) (tTrue) (toV (f2 (toO (f2 (fSlot 9) (fSlot 8) (isI iSub))) (fSlot 2) (dIn))))) (aNil)) dAll)) (fName 8))) (aNil)) dTuple)))
def F_offsets_for : List D → Option (D × Bool) := mk0 10 b_offsets_for
theorem sc_offsets_for : FnScope ["codes", "addresses", "spots", "_", "begin", "size", "at", "able", "by", "address"] ["codes", "addresses"] (defScope s_offsets_for) := ⟨rfl, rfl, rfl, by decide +kernel, rfl, by decide +kernel, by decide +kernel⟩
theorem fn_offsets_for {P : Program} {w : World} {K : PySem.W.Frag} {mg : Str → Option Value} {base : Heap} {f : Addr} {fd : FuncData} (M : Mg mg) (F : FunD K "offsets_for" "offsets_for" (defArgs s_offsets_for) (defBody s_offsets_for) (defScope s_offsets_for) [] [] f fd)  : FnOk P w K mg base CX0 1 f fd ["codes", "addresses"] (sp0 K 2 F_offsets_for) := by
  have hN := sc_offsets_for.nd
  refine ok_def0 F sc_offsets_for fun cdv A outer s H E hr => ?_
  have hc : (cxOf CX0 P w K mg base ["codes", "addresses", "spots", "_", "begin", "size", "at", "able", "by", "address"] "offsets_for" (defScope s_offsets_for) f cdv A outer s H E).nox.calm = true := rfl
  exact (fs_cons (fs_set (i := 2) hN (fe_lc2 (own := [("_", 3), ("begin", 4), ("size", 5), ("at", 6)]) (vs1 := [6]) hc hN (fi_val (fv_name (pv 0))) (blkOf (by kernel_rfl)) (by decide) (by decide) (by decide) (fun _ _ _ _ _ => (fg_tup hc (fgs_cons (fg_name hN) (fgs_cons (fg_name hN) (fgs_cons (fg_name hN) (fgs_cons (fg_name hN) fgs_nil)))))) (fun _ _ _ _ _ => ft_none) (fun _ _ _ _ _ => (fi_range2 M.range (fa_cons (fo_name (pv 4)) (fa_cons (fo_e (fe_op o2_add op_addD (fo_name (pv 4)) (fo_name (pv 5)))) fa_nil)))) (fun _ _ _ _ _ => (fg_name hN)) (fun _ _ _ _ _ => ft_none) (fun _ _ _ _ _ => (fv_name (pv 6))))) (fs_cons (fs_setLc (i := 7) (own := [("at", 6)]) hc hN (fi_val (fv_name (pv 2))) (blkOf (by kernel_rfl)) (by decide) (fun _ _ _ _ _ => (fg_name hN)) (fun _ _ _ _ _ => ft_none) (fun _ _ _ _ _ => (fv_e (fe_op o2_sub op_sub (fo_e (fe_ix o2_ixA (ix_A hr.u1) (fo_name (pv 1)) (fo_v fv_int) (fun _ _ => rfl))) (fo_name (pv 6)))))) (fs_one (fs_ret (fe_callTy on_tuple cr_tupOf M.tuple (fa_cons (fo_e (fe_lc (own := [("by", 8)]) hc hN (fi_val (fv_e (fe_callB on_sort (cr_sortG hc hr.u64) M.sorted (fa_cons (fo_name (pv 7)) fa_nil)))) (blkOf (by kernel_rfl)) (by decide) (fun _ _ _ _ _ => (fg_name hN)) (fun _ _ _ _ _ => (ft_one (ft_val (fe_callB on_all (cr_all hc) M.all (fa_cons (fo_e (fe_lc (own := [("address", 9)]) hc hN (fi_val (fv_name (pv 1))) (blkOf (by kernel_rfl)) (by decide) (fun _ _ _ _ _ => (fg_name hN)) (fun _ _ _ _ _ => ft_none) (fun _ _ _ _ _ => (fv_e (fe_cmp o2_in (op_inA hr.u65) (fo_e (fe_op o2_sub op_sub (fo_name (pv 9)) (fo_name (pv 8)))) (fo_name (pv 2)) (by rfl)))))) fa_nil))))) (fun _ _ _ _ _ => (fv_name (pv 8))))) fa_nil))))))
theorem ok_offsets_for {P : Program} {w : World} {K : PySem.W.Frag} {mg : Str → Option Value} {base : Heap} {f : Addr} {fd : FuncData} (M : Mg mg) (F : FunD K "offsets_for" "offsets_for" (defArgs s_offsets_for) (defBody s_offsets_for) (defScope s_offsets_for) [] [] f fd)  (hm : mg "offsets_for" = some (.ref f)) : Ow P w K mg base 1 "offsets_for" ["codes", "addresses"] (sp0 K 2 F_offsets_for) :=
  ⟨f, fd, hm, F.kp, F.bindsN fun _ _ _ _ _ _ us hl => match us, hl with | [_, _], _ => rfl, fn_offsets_for M F ⟩
def b__law_draws : Sv := sSeq (sSet 2 (fLst (lNil))) (sSeq (sSet 3 (ofV (fC (.int 7)))) (sSeq (sFor (itR (aCons (toO (fN (aCons (fSlot 0) (aNil)) dLen)) (aNil)) range1D) (gN 4) (sSeq (sSet 5 (fN (aCons (toO (fN (aCons (toO (f2 (fSlot 0) (fSlot 4) dIxA)) (aNil)) dInt)) (aNil)) dAbs)) (sSeq (sSet 3 (f2 (toO (fN (aCons (toO (f2 (toO (f2 (toO (f2 (fSlot 3) (svO (fC (.int 48271))) (isI iMul))) (toO (f2 (fSlot 5) (svO (fC (.int 1000003))) (isI iMod))) (dAdd))) (fSlot 4) (dAdd))) (aNil)) dInt)) (svO (fC (.int 65537))) (isI iMod))) (sSeq (sSet 6 (ofV (fC (.int 0)))) (sSeq (sIf (tB1 (f2 (fSlot 5) (toO (f2 (svO (fC (.int 10))) (svO (fC (.int 18))) (isI iPow))) (isI iGe))) (sSet 6 (ofV (fName 5))) (sSeq (sExpr (fMut 2 isLst (lCons (toV (f2 (toO (fN (aCons (fSlot 5) (aNil)) dInt)) (svO (fC (.int 997))) (isI iMod))) (lNil)) mAppend)) (sExpr (fMut 2 isLst (lCons (toV (f2 (toO (f2 (toO (fN (aCons (toO (f2 (toO (f2 (fSlot 3) (svO (fC (.int 69621))) (isI iMul))) (svO (fC (.int 5))) (dAdd))) (aNil)) dInt)) (svO (fC (.int 65521))) (isI iMod))) (svO (fC (.int 997))) (isI iMod))) (lNil)) mAppend)))) (sFor (itR (aCons (svO (fC (.int 60))) (aNil)) range1D) (gN 7) (sIf (tB1 (f2 (fSlot 6) (svO (fC (.int 0))) (isI iGt))) (sSeq (sExpr (fMut 2 isLst (lCons (toV (f2 (toO (fN (aCons (fSlot 6) (aNil)) dInt)) (svO (fC (.int 997))) (isI iMod))) (lNil)) mAppend)) (sSet 6 (f2 (fSlot 6) (svO (fC (.int 997))) (isI iDiv)))) (sNx)))))))) (sSeq (sFor (itR (aCons (fSlot 1) (aNil)) range1D) (gN 4) (sSeq (sSet 3 (f2 (toO (fN (aCons (toO (f2 (toO (f2 (toO (f2 (fSlot 3) (svO (fC (.int 16807))) (isI iMul))) (fSlot 4) (dAdd))) (svO (fC (.int 1))) (dAdd))) (aNil)) dInt)) (svO (fC (.int 65537))) (isI iMod))) (sExpr (fMut 2 isLst (lCons (toV (f2 (toO (fN (aCons (fSlot 3) (aNil)) dInt)) (svO (fC (.int 997))) (isI iMod))) (lNil)) mAppend)))) (sRet (fSl (fSlot 2) (pNone) (pInt (fSlot 1)) dSl)))))
def F__law_draws : List D → Option (D × Bool) := mk0 8 b__law_draws
theorem sc__law_draws : FnScope ["script", "many", "draws", "mixed", "k", "cell", "rest", "turn"] ["script", "many"] (defScope s__law_draws) := ⟨rfl, rfl, rfl, by decide +kernel, rfl, by decide +kernel, by decide +kernel⟩
theorem fn__law_draws {P : Program} {w : World} {K : PySem.W.Frag} {mg : Str → Option Value} {base : Heap} {f : Addr} {fd : FuncData} (M : Mg mg) (F : FunD K "_law_draws" "_law_draws" (defArgs s__law_draws) (defBody s__law_draws) (defScope s__law_draws) [] [] f fd)  : FnOk P w K mg base CX0 1 f fd ["script", "many"] (sp0 K 2 F__law_draws) := by
  have hN := sc__law_draws.nd
  refine ok_def0 F sc__law_draws fun cdv A outer s H E hr => ?_
  have hc : (cxOf CX0 P w K mg base ["script", "many", "draws", "mixed", "k", "cell", "rest", "turn"] "_law_draws" (defScope s__law_draws) f cdv A outer s H E).nox.calm = true := rfl
  exact (fs_cons (fs_set (i := 2) hN (fe_lst fl_nil)) (fs_cons (fs_set (i := 3) hN (fe_v fv_int)) (fs_cons (fs_for PassesOwn.never hc (fi_range1 M.range (fa_cons (fo_e (fe_callB on_len cr_lenA M.len (fa_cons (fo_name (pv 0)) fa_nil))) fa_nil)) (fg_name hN) (fs_cons (fs_set (i := 5) hN (fe_callB on_abs call_abs M.abs (fa_cons (fo_e (fe_callTy on_int call_int1 M.int (fa_cons (fo_e (fe_ix o2_ixA (ix_A hr.u1) (fo_name (pv 0)) (fo_name (pv 4)) (fun _ _ => rfl))) fa_nil))) fa_nil))) (fs_cons (fs_set (i := 3) hN (fe_op o2_mod op_mod (fo_e (fe_callTy on_int call_int1 M.int (fa_cons (fo_e (fe_op o2_add op_addD (fo_e (fe_op o2_add op_addD (fo_e (fe_op o2_mulI op_mul (fo_name (pv 3)) (fo_v fv_int))) (fo_e (fe_op o2_mod op_mod (fo_name (pv 5)) (fo_v fv_int))))) (fo_name (pv 4)))) fa_nil))) (fo_v fv_int))) (fs_cons (fs_set (i := 6) hN (fe_v fv_int)) (fs_cons (fs_if (ft_cmp o2_geI op_ge (fo_name (pv 5)) (fo_e (fe_op o2_pow op_pow (fo_v fv_int) (fo_v fv_int))) (nomark _)) (fs_one (fs_set (i := 6) hN (fe_v (fv_name (pv 5))))) (fs_cons (fs_expr (fe_mut (kindL _) om_append PySem.F.plainAttrs_list PySem.F.slot_list_append PySem.type_list_append mt_append (pv 2) (fl_cons (fv_e (fe_op o2_mod op_mod (fo_e (fe_callTy on_int call_int1 M.int (fa_cons (fo_name (pv 5)) fa_nil))) (fo_v fv_int))) fl_nil))) (fs_one (fs_expr (fe_mut (kindL _) om_append PySem.F.plainAttrs_list PySem.F.slot_list_append PySem.type_list_append mt_append (pv 2) (fl_cons (fv_e (fe_op o2_mod op_mod (fo_e (fe_op o2_mod op_mod (fo_e (fe_callTy on_int call_int1 M.int (fa_cons (fo_e (fe_op o2_add op_addD (fo_e (fe_op o2_mulI op_mul (fo_name (pv 3)) (fo_v fv_int))) (fo_v fv_int))) fa_nil))) (fo_v fv_int))) (fo_v fv_int))) fl_nil)))))) (fs_one (fs_for PassesOwn.never hc (fi_range1 M.range (fa_cons (fo_v fv_int) fa_nil)) (fg_name hN) (fs_one (fs_if (ft_cmp o2_gtI op_gt (fo_name (pv 6)) (fo_v fv_int) (nomark _)) (fs_cons (fs_expr (fe_mut (kindL _) om_append PySem.F.plainAttrs_list PySem.F.slot_list_append PySem.type_list_append mt_append (pv 2) (fl_cons (fv_e (fe_op o2_mod op_mod (fo_e (fe_callTy on_int call_int1 M.int (fa_cons (fo_name (pv 6)) fa_nil))) (fo_v fv_int))) fl_nil))) (fs_one (fs_set (i := 6) hN (fe_op o2_div op_fdiv (fo_name (pv 6)) (fo_v fv_int))))) fs_nil))))))))) (fs_cons (fs_for PassesOwn.never hc (fi_range1 M.range (fa_cons (fo_name (pv 1)) fa_nil)) (fg_name hN) (fs_cons (fs_set (i := 3) hN (fe_op o2_mod op_mod (fo_e (fe_callTy on_int call_int1 M.int (fa_cons (fo_e (fe_op o2_add op_addD (fo_e (fe_op o2_add op_addD (fo_e (fe_op o2_mulI op_mul (fo_name (pv 3)) (fo_v fv_int))) (fo_name (pv 4)))) (fo_v fv_int))) fa_nil))) (fo_v fv_int))) (fs_one (fs_expr (fe_mut (kindL _) om_append PySem.F.plainAttrs_list PySem.F.slot_list_append PySem.type_list_append mt_append (pv 2) (fl_cons (fv_e (fe_op o2_mod op_mod (fo_e (fe_callTy on_int call_int1 M.int (fa_cons (fo_name (pv 3)) fa_nil))) (fo_v fv_int))) fl_nil)))))) (fs_one (fs_ret (fe_slice os_sl sl_D (fo_name (pv 2)) fp_none (fp_some (fo_name (pv 1))))))))))
theorem ok__law_draws {P : Program} {w : World} {K : PySem.W.Frag} {mg : Str → Option Value} {base : Heap} {f : Addr} {fd : FuncData} (M : Mg mg) (F : FunD K "_law_draws" "_law_draws" (defArgs s__law_draws) (defBody s__law_draws) (defScope s__law_draws) [] [] f fd)  (hm : mg "_law_draws" = some (.ref f)) : Ow P w K mg base 1 "_law_draws" ["script", "many"] (sp0 K 2 F__law_draws) :=
  ⟨f, fd, hm, F.kp, F.bindsN fun _ _ _ _ _ _ us hl => match us, hl with | [_, _], _ => rfl, fn__law_draws M F ⟩
def b__law_next : Sv := sSeq (sAugS 0 (fC (.str "at")) (fC (.int 1)) zAdd) (sSeq (sIf (tB1 (f2 (toO (f2 (fSlot 0) (svO (fC (.str "at"))) dIxA)) (toO (fN (aCons (toO (f2 (fSlot 0) (svO (fC (.str "draws"))) dIxA)) (aNil)) dLen)) (isI iGt))) (sRet (ofV (fC (.int 0)))) (sNx)) (sRet (f2 (toO (fN (aCons (toO (f2 (toO (f2 (fSlot 0) (svO (fC (.str "draws"))) dIxA)) (toO (f2 (toO (f2 (fSlot 0) (svO (fC (.str "at"))) dIxA)) (svO (fC (.int 1))) (isI iSub))) dIxA)) (aNil)) dInt)) (fSlot 1) (isI iMod))))
def F__law_next : D → List D → Option (D × Bool × D) := mkW 2 b__law_next
theorem sc__law_next : FnScope ["w", "many"] ["w", "many"] (defScope s__law_next) := ⟨rfl, rfl, rfl, by decide +kernel, rfl, by decide +kernel, by decide +kernel⟩
theorem fn__law_next {P : Program} {w : World} {K : PySem.W.Frag} {mg : Str → Option Value} {base : Heap} {f : Addr} {fd : FuncData} (M : Mg mg) (F : FunD K "_law_next" "_law_next" (defArgs s__law_next) (defBody s__law_next) (defScope s__law_next) [] [] f fd)  : FnOk P w K mg base CX0 1 f fd ["w", "many"] (spW K 1 F__law_next) := by
  have hN := sc__law_next.nd
  refine ok_defW (np := 1) F sc__law_next rfl (by decide) fun cdv A outer s H E hr => ?_
  have hc : (cxOf CX0 P w K mg base ["w", "many"] "_law_next" (defScope s__law_next) f cdv A outer s H E).nox.calm = true := rfl
  exact (fs_cons (fs_augS hr.u1 (pv 0) fv_str fv_int ip_add i2_add) (fs_cons (fs_if (ft_cmp o2_gtI op_gt (fo_e (fe_ix o2_ixA (ix_A hr.u1) (fo_name (pv 0)) (fo_v fv_str) (fun _ _ => rfl))) (fo_e (fe_callB on_len cr_lenA M.len (fa_cons (fo_e (fe_ix o2_ixA (ix_A hr.u1) (fo_name (pv 0)) (fo_v fv_str) (fun _ _ => rfl))) fa_nil))) (nomark _)) (fs_one (fs_ret (fe_v fv_int))) fs_nil) (fs_one (fs_ret (fe_op o2_mod op_mod (fo_e (fe_callTy on_int call_int1 M.int (fa_cons (fo_e (fe_ix o2_ixA (ix_A hr.u1) (fo_e (fe_ix o2_ixA (ix_A hr.u1) (fo_name (pv 0)) (fo_v fv_str) (fun _ _ => rfl))) (fo_e (fe_op o2_sub op_sub (fo_e (fe_ix o2_ixA (ix_A hr.u1) (fo_name (pv 0)) (fo_v fv_str) (fun _ _ => rfl))) (fo_v fv_int))) (fun _ _ => rfl))) fa_nil))) (fo_name (pv 1)))))))
theorem ok__law_next {P : Program} {w : World} {K : PySem.W.Frag} {mg : Str → Option Value} {base : Heap} {f : Addr} {fd : FuncData} (M : Mg mg) (F : FunD K "_law_next" "_law_next" (defArgs s__law_next) (defBody s__law_next) (defScope s__law_next) [] [] f fd)  (hm : mg "_law_next" = some (.ref f)) : Ow P w K mg base 1 "_law_next" ["w", "many"] (spW K 1 F__law_next) :=
  ⟨f, fd, hm, F.kp, F.bindsN fun _ _ _ _ _ _ us hl => match us, hl with | [_, _], _ => rfl, fn__law_next M F ⟩
def b__law_codes : Sv := sSeq (sParN [1, 2] (mCons (fLst (lNil)) (mCons (f2 (svO (fC (.int 1))) (toO (fCallW 1 0 (lCons (fC (.int 4)) (lNil)) F__law_next)) (dAdd)) (mNil)))) (sSeq (sFor (itR (aCons (toO (f2 (svO (fC (.int 1))) (toO (fCallW 1 0 (lCons (fC (.int 3)) (lNil)) F__law_next)) (dAdd))) (aNil)) range1D) (gN 3) (sSeq (sParN [4, 5, 6] (mCons (f2 (svO (fC (.int 2))) (toO (fCallW 1 0 (lCons (fC (.int 4)) (lNil)) F__law_next)) (dAdd)) (mCons (fLst (lNil)) (mCons (ofV (fC (.int 0))) (mNil))))) (sSeq (sFor (itR (aCons (fSlot 4) (aNil)) range1D) (gN 7) (sSeq (sIf (tOrF (tAndF (tB1 (f2 (fSlot 7) (svO (fC (.int 0))) (dEq))) (tB1 (f2 (toO (fCallW 1 0 (lCons (fC (.int 5)) (lNil)) F__law_next)) (svO (fC (.int 0))) (isI iGt)))) (tAndF (tB1 (f2 (fSlot 7) (svO (fC (.int 0))) (isI iGt))) (tB1 (f2 (toO (fCallW 1 0 (lCons (fC (.int 2)) (lNil)) F__law_next)) (svO (fC (.int 0))) (dEq))))) (sSeq (sSet 8 (fN (aCons (toO (fLc [9, 10] (itV (fTup (lCons (fTup (lCons (fC (.int 0)) (lCons (fC (.str "a")) (lNil)))) (lCons (fTup (lCons (fC (.int 1)) (lCons (fC (.str "b")) (lNil)))) (lNil))))) (gT 2 (gsCons (gN 9) (gsCons (gN 10) (gsNil)))) (tAndF (tB1 (f2 (fSlot 9) (fSlot 6) (isI iLt))) (tB1 (f2 (toO (fCallW 1 0 (lCons (fC (.int 2)) (lNil)) F__law_next)) (svO (fC (.int 0))) (dEq)))) (fTup (lCons (fName 10) (lCons (toV (f2 (svO (fC (.int 1))) (fSlot 9) (dAdd))) (lNil)))))) (aNil)) dTuple)) (sExpr (fMut 5 isLst (lCons (fTup (lCons (fName 7) (lCons (fTup (lCons (fName 6) (lCons (fName 8) (lNil)))) (lNil)))) (lNil)) mAppend))) (sNx)) (sAugN 6 (toV (fCallW 1 0 (lCons (fC (.int 2)) (lNil)) F__law_next)) zAdd))) (sSeq (sExpr (fMut 1 isLst (lCons (fTup (lCons (toV (f2 (toO (fLst (lCons (fC (.str "f")) (lCons (fC (.str "g")) (lCons (fC (.str "h")) (lNil)))))) (fSlot 3) dIxA)) (lCons (fName 2) (lCons (fName 4) (lCons (toV (fN (aCons (fSlot 5) (aNil)) dTuple)) (lNil)))))) (lNil)) mAppend)) (sAugN 2 (toV (f2 (fSlot 4) (toO (fCallW 1 0 (lCons (fC (.int 3)) (lNil)) F__law_next)) (dAdd))) zAdd))))) (sRet (fN (aCons (fSlot 1) (aNil)) dTuple)))
def F__law_codes : D → List D → Option (D × Bool × D) := mkW 11 b__law_codes
theorem sc__law_codes : FnScope ["w", "found", "begin", "k", "size", "rules", "far", "place", "kept", "n", "name"] ["w"] (defScope s__law_codes) := ⟨rfl, rfl, rfl, by decide +kernel, rfl, by decide +kernel, by decide +kernel⟩
theorem fn__law_codes {P : Program} {w : World} {K : PySem.W.Frag} {mg : Str → Option Value} {base : Heap} {f : Addr} {fd : FuncData} (M : Mg mg) (F : FunD K "_law_codes" "_law_codes" (defArgs s__law_codes) (defBody s__law_codes) (defScope s__law_codes) [] [] f fd) (c__law_next : Ow P w K mg base 1 "_law_next" ["w", "many"] (spW K 1 F__law_next)) : FnOk P w K mg base CX0 2 f fd ["w"] (spW K 0 F__law_codes) := by
  have hN := sc__law_codes.nd
  refine ok_defW (np := 0) F sc__law_codes rfl (by decide) fun cdv A outer s H E hr => ?_
  have hc : (cxOf CX0 P w K mg base ["w", "found", "begin", "k", "size", "rules", "far", "place", "kept", "n", "name"] "_law_codes" (defScope s__law_codes) f cdv A outer s H E).nox.calm = true := rfl
  exact (fs_cons (fs_par2 (i := 1) (j := 2) hc hN (fm_cons (fe_lst fl_nil) (fm_cons (fe_op o2_add op_addD (fo_v fv_int) (fo_e (fe_callWO c__law_next hr (pv 0) (fl_cons fv_int fl_nil) (by first | decide | omega | (simp only [Nat.add_eq]; omega))))) fm_nil))) (fs_cons (fs_for PassesOwn.never hc (fi_range1 M.range (fa_cons (fo_e (fe_op o2_add op_addD (fo_v fv_int) (fo_e (fe_callWO c__law_next hr (pv 0) (fl_cons fv_int fl_nil) (by first | decide | omega | (simp only [Nat.add_eq]; omega)))))) fa_nil)) (fg_name hN) (fs_cons (fs_parT hc (gns_cons (i := 4) hN (gns_cons (i := 5) hN (gns_cons (i := 6) hN gns_nil))) (fm_cons (fe_op o2_add op_addD (fo_v fv_int) (fo_e (fe_callWO c__law_next hr (pv 0) (fl_cons fv_int fl_nil) (by first | decide | omega | (simp only [Nat.add_eq]; omega))))) (fm_cons (fe_lst fl_nil) (fm_cons (fe_v fv_int) fm_nil)))) (fs_cons (fs_for PassesOwn.never hc (fi_range1 M.range (fa_cons (fo_name (pv 4)) fa_nil)) (fg_name hN) (fs_cons (fs_if (PW.pt (fw_or (PW.pt (fw_and (ft_cmp o2_eq (op_eqD hr.u64) (fo_name (pv 7)) (fo_v fv_int) (nomark _)) (fw_and1 (ft_cmp o2_gtI op_gt (fo_e (fe_callWO c__law_next hr (pv 0) (fl_cons fv_int fl_nil) (by first | decide | omega | (simp only [Nat.add_eq]; omega)))) (fo_v fv_int) (nomark _))))) (fw_or1 (PW.pt (fw_and (ft_cmp o2_gtI op_gt (fo_name (pv 7)) (fo_v fv_int) (nomark _)) (fw_and1 (ft_cmp o2_eq (op_eqD hr.u64) (fo_e (fe_callWO c__law_next hr (pv 0) (fl_cons fv_int fl_nil) (by first | decide | omega | (simp only [Nat.add_eq]; omega)))) (fo_v fv_int) (nomark _)))))))) (fs_cons (fs_set (i := 8) hN (fe_callTy on_tuple cr_tupOf M.tuple (fa_cons (fo_e (fe_lc (own := [("n", 9), ("name", 10)]) hc hN (fi_val (fv_tup (fl_cons (fv_tup (fl_cons fv_int (fl_cons fv_str fl_nil))) (fl_cons (fv_tup (fl_cons fv_int (fl_cons fv_str fl_nil))) fl_nil)))) (blkOf (by kernel_rfl)) (by decide) (fun _ _ _ _ _ => (fg_tup hc (fgs_cons (fg_name hN) (fgs_cons (fg_name hN) fgs_nil)))) (fun _ _ _ _ _ => (ft_one (PW.pt (fw_and (ft_cmp o2_ltI op_lt (fo_name (pv 9)) (fo_name (pv 6)) (nomark _)) (fw_and1 (ft_cmp o2_eq (op_eqD hr.u64) (fo_e (fe_callWO c__law_next hr (pv 0) (fl_cons fv_int fl_nil) (by first | decide | omega | (simp only [Nat.add_eq]; omega)))) (fo_v fv_int) (nomark _))))))) (fun _ _ _ _ _ => (fv_tup (fl_cons (fv_name (pv 10)) (fl_cons (fv_e (fe_op o2_add op_addD (fo_v fv_int) (fo_name (pv 9)))) fl_nil)))))) fa_nil))) (fs_one (fs_expr (fe_mut (kindL _) om_append PySem.F.plainAttrs_list PySem.F.slot_list_append PySem.type_list_append mt_append (pv 5) (fl_cons (fv_tup (fl_cons (fv_name (pv 7)) (fl_cons (fv_tup (fl_cons (fv_name (pv 6)) (fl_cons (fv_name (pv 8)) fl_nil))) fl_nil))) fl_nil))))) fs_nil) (fs_one (fs_aug (i := 6) hN (fv_e (fe_callWO c__law_next hr (pv 0) (fl_cons fv_int fl_nil) (by first | decide | omega | (simp only [Nat.add_eq]; omega)))) ip_add i2_add)))) (fs_cons (fs_expr (fe_mut (kindL _) om_append PySem.F.plainAttrs_list PySem.F.slot_list_append PySem.type_list_append mt_append (pv 1) (fl_cons (fv_tup (fl_cons (fv_e (fe_ix o2_ixA (ix_A hr.u1) (fo_e (fe_lst (fl_cons fv_str (fl_cons fv_str (fl_cons fv_str fl_nil))))) (fo_name (pv 3)) (fun _ _ => rfl))) (fl_cons (fv_name (pv 2)) (fl_cons (fv_name (pv 4)) (fl_cons (fv_e (fe_callTy on_tuple cr_tupOf M.tuple (fa_cons (fo_name (pv 5)) fa_nil))) fl_nil))))) fl_nil))) (fs_one (fs_aug (i := 2) hN (fv_e (fe_op o2_add op_addD (fo_name (pv 4)) (fo_e (fe_callWO c__law_next hr (pv 0) (fl_cons fv_int fl_nil) (by first | decide | omega | (simp only [Nat.add_eq]; omega)))))) ip_add i2_add)))))) (fs_one (fs_ret (fe_callTy on_tuple cr_tupOf M.tuple (fa_cons (fo_name (pv 1)) fa_nil))))))
theorem ok__law_codes {P : Program} {w : World} {K : PySem.W.Frag} {mg : Str → Option Value} {base : Heap} {f : Addr} {fd : FuncData} (M : Mg mg) (F : FunD K "_law_codes" "_law_codes" (defArgs s__law_codes) (defBody s__law_codes) (defScope s__law_codes) [] [] f fd) (c__law_next : Ow P w K mg base 1 "_law_next" ["w", "many"] (spW K 1 F__law_next)) (hm : mg "_law_codes" = some (.ref f)) : Ow P w K mg base 2 "_law_codes" ["w"] (spW K 0 F__law_codes) :=
  ⟨f, fd, hm, F.kp, F.bindsN fun _ _ _ _ _ _ us hl => match us, hl with | [_], _ => rfl, fn__law_codes M F c__law_next⟩
def b__law_code_at : Sv := sSeq (sSet 2 (fLc [3] (itV (fName 0)) (gN 3) (tB1 (f2 (fSlot 1) (toO (fLr2 (toV (f2 (fSlot 3) (svO (fC (.int 1))) dIxA)) (toV (f2 (toO (f2 (fSlot 3) (svO (fC (.int 1))) dIxA)) (toO (f2 (fSlot 3) (svO (fC (.int 2))) dIxA)) (dAdd))))) (dIn))) (fName 3))) (sRet (fIf (tB1 (f2 (fSlot 2) (toO (fLst (lNil))) (dNe))) (f2 (fSlot 2) (svO (fC (.int 0))) dIxA) (ofV (fC .none))))
def F__law_code_at : List D → Option (D × Bool) := mk0 4 b__law_code_at
theorem sc__law_code_at : FnScope ["codes", "address", "able", "code"] ["codes", "address"] (defScope s__law_code_at) := ⟨rfl, rfl, rfl, by decide +kernel, rfl, by decide +kernel, by decide +kernel⟩
theorem fn__law_code_at {P : Program} {w : World} {K : PySem.W.Frag} {mg : Str → Option Value} {base : Heap} {f : Addr} {fd : FuncData} (M : Mg mg) (F : FunD K "_law_code_at" "_law_code_at" (defArgs s__law_code_at) (defBody s__law_code_at) (defScope s__law_code_at) [] [] f fd)  : FnOk P w K mg base CX0 1 f fd ["codes", "address"] (sp0 K 2 F__law_code_at) := by
  have hN := sc__law_code_at.nd
  refine ok_def0 F sc__law_code_at fun cdv A outer s H E hr => ?_
  have hc : (cxOf CX0 P w K mg base ["codes", "address", "able", "code"] "_law_code_at" (defScope s__law_code_at) f cdv A outer s H E).nox.calm = true := rfl
  exact (fs_cons (fs_setLc (i := 2) (own := [("code", 3)]) hc hN (fi_val (fv_name (pv 0))) (blkOf (by kernel_rfl)) (by decide) (fun _ _ _ _ _ => (fg_name hN)) (fun _ _ _ _ _ => (ft_one (ft_cmp o2_in (op_inA hr.u65) (fo_name (pv 1)) (fo_e (fe_lr2 hc M.list M.range (fv_e (fe_ix o2_ixA (ix_A hr.u1) (fo_name (pv 3)) (fo_v fv_int) (fun _ _ => rfl))) (fv_e (fe_op o2_add op_addD (fo_e (fe_ix o2_ixA (ix_A hr.u1) (fo_name (pv 3)) (fo_v fv_int) (fun _ _ => rfl))) (fo_e (fe_ix o2_ixA (ix_A hr.u1) (fo_name (pv 3)) (fo_v fv_int) (fun _ _ => rfl))))))) (by rfl)))) (fun _ _ _ _ _ => (fv_name (pv 3)))) (fs_one (fs_ret (fe_if (ft_cmp o2_ne (op_neD hr.u64) (fo_name (pv 2)) (fo_e (fe_lst fl_nil)) (nomark _)) (fe_ix o2_ixA (ix_A hr.u1) (fo_name (pv 2)) (fo_v fv_int) (fun _ _ => rfl)) (fe_v fv_non)))))
theorem ok__law_code_at {P : Program} {w : World} {K : PySem.W.Frag} {mg : Str → Option Value} {base : Heap} {f : Addr} {fd : FuncData} (M : Mg mg) (F : FunD K "_law_code_at" "_law_code_at" (defArgs s__law_code_at) (defBody s__law_code_at) (defScope s__law_code_at) [] [] f fd)  (hm : mg "_law_code_at" = some (.ref f)) : Ow P w K mg base 1 "_law_code_at" ["codes", "address"] (sp0 K 2 F__law_code_at) :=
  ⟨f, fd, hm, F.kp, F.bindsN fun _ _ _ _ _ _ us hl => match us, hl with | [_, _], _ => rfl, fn__law_code_at M F ⟩
def b__law_rule_at : Sv := sSeq (sSet 2 (fLc [3, 4] (itV (toV (f2 (fSlot 0) (svO (fC (.int 3))) dIxA))) (gT 2 (gsCons (gN 3) (gsCons (gN 4) (gsNil)))) (tB1 (f2 (fSlot 3) (fSlot 1) (isI iLe))) (fName 4))) (sRet (fIf (tB1 (f2 (fSlot 2) (toO (fLst (lNil))) (dNe))) (f2 (fSlot 2) (toO (f1 (svO (fC (.int 1))) dNeg)) dIxA) (ofV (fC .none))))
def F__law_rule_at : List D → Option (D × Bool) := mk0 5 b__law_rule_at
theorem sc__law_rule_at : FnScope ["code", "inner", "able", "place", "rule"] ["code", "inner"] (defScope s__law_rule_at) := ⟨rfl, rfl, rfl, by decide +kernel, rfl, by decide +kernel, by decide +kernel⟩
theorem fn__law_rule_at {P : Program} {w : World} {K : PySem.W.Frag} {mg : Str → Option Value} {base : Heap} {f : Addr} {fd : FuncData} (M : Mg mg) (F : FunD K "_law_rule_at" "_law_rule_at" (defArgs s__law_rule_at) (defBody s__law_rule_at) (defScope s__law_rule_at) [] [] f fd)  : FnOk P w K mg base CX0 1 f fd ["code", "inner"] (sp0 K 2 F__law_rule_at) := by
  have hN := sc__law_rule_at.nd
  refine ok_def0 F sc__law_rule_at fun cdv A outer s H E hr => ?_
  have hc : (cxOf CX0 P w K mg base ["code", "inner", "able", "place", "rule"] "_law_rule_at" (defScope s__law_rule_at) f cdv A outer s H E).nox.calm = true := rfl
  exact (fs_cons (fs_setLc (i := 2) (own := [("place", 3), ("rule", 4)]) hc hN (fi_val (fv_e (fe_ix o2_ixA (ix_A hr.u1) (fo_name (pv 0)) (fo_v fv_int) (fun _ _ => rfl)))) (blkOf (by kernel_rfl)) (by decide) (fun _ _ _ _ _ => (fg_tup hc (fgs_cons (fg_name hN) (fgs_cons (fg_name hN) fgs_nil)))) (fun _ _ _ _ _ => (ft_one (ft_cmp o2_leI op_le (fo_name (pv 3)) (fo_name (pv 1)) (nomark _)))) (fun _ _ _ _ _ => (fv_name (pv 4)))) (fs_one (fs_ret (fe_if (ft_cmp o2_ne (op_neD hr.u64) (fo_name (pv 2)) (fo_e (fe_lst fl_nil)) (nomark _)) (fe_ix o2_ixA (ix_A hr.u1) (fo_name (pv 2)) (fo_e (fe_un o1_neg un_neg (fo_v fv_int))) (fun _ _ => rfl)) (fe_v fv_non)))))
theorem ok__law_rule_at {P : Program} {w : World} {K : PySem.W.Frag} {mg : Str → Option Value} {base : Heap} {f : Addr} {fd : FuncData} (M : Mg mg) (F : FunD K "_law_rule_at" "_law_rule_at" (defArgs s__law_rule_at) (defBody s__law_rule_at) (defScope s__law_rule_at) [] [] f fd)  (hm : mg "_law_rule_at" = some (.ref f)) : Ow P w K mg base 1 "_law_rule_at" ["code", "inner"] (sp0 K 2 F__law_rule_at) :=
  ⟨f, fd, hm, F.kp, F.bindsN fun _ _ _ _ _ _ us hl => match us, hl with | [_, _], _ => rfl, fn__law_rule_at M F ⟩
def b__law_caller : Sv := sSeq (sSet 5 (fCall 2 (lCons (fName 0) (lCons (fName 2) (lNil))) F__law_code_at)) (sSeq (sSet 6 (fIf (tB1 (fIs (fSlot 5) (fun d => !isND d))) (fCall 2 (lCons (fName 5) (lCons (toV (f2 (fSlot 2) (toO (f2 (fSlot 5) (svO (fC (.int 1))) dIxA)) (isI iSub))) (lNil))) F__law_rule_at) (ofV (fC .none)))) (sSeq (sIf (tOrF (tB1 (fIs (fSlot 6) isND)) (tB1 (f2 (toO (f2 (toO (f2 (fSlot 3) (svO (fC (.int 1))) (isI iSub))) (toO (f2 (fSlot 6) (svO (fC (.int 0))) dIxA)) (isI iSub))) (svO (fC (.int 0))) (isI iLt)))) (sRet (ofV (fC .none))) (sNx)) (sSeq (sParN [7, 8] (mCons (f2 (toO (f2 (fSlot 3) (svO (fC (.int 1))) (isI iSub))) (toO (f2 (fSlot 6) (svO (fC (.int 0))) dIxA)) (isI iSub)) (mCons (fN (aCons (fSlot 4) (aNil)) dDict) (mNil)))) (sSeq (sFor (itV (toV (f2 (fSlot 6) (svO (fC (.int 1))) dIxA))) (gT 2 (gsCons (gN 9) (gsCons (gN 10) (gsNil)))) (sAsg (toV (f2 (fSlot 1) (toO (f2 (fSlot 7) (fSlot 10) (dAdd))) dIxA)) (gSubD 8 (fName 9)))) (sRet (ofV (fTup (lCons (toV (f2 (fSlot 1) (fSlot 7) dIxA)) (lCons (fName 7) (lCons (toV (fN (aCons (toO (fLc [9] (itV (toV (fN (aCons (fSlot 8) (aNil)) dSort))) (gN 9) (tTrue) (fTup (lCons (fName 9) (lCons (toV (f2 (fSlot 8) (fSlot 9) dIxA)) (lNil)))))) (aNil)) dTuple)) (lNil)))))))))))
def F__law_caller : List D → Option (D × Bool) := mk0 11 b__law_caller
theorem sc__law_caller : FnScope ["codes", "stack", "address", "top", "registers", "code", "rule", "place", "table", "name", "far"] ["codes", "stack", "address", "top", "registers"] (defScope s__law_caller) := ⟨rfl, rfl, rfl, by decide +kernel, rfl, by decide +kernel, by decide +kernel⟩
theorem fn__law_caller {P : Program} {w : World} {K : PySem.W.Frag} {mg : Str → Option Value} {base : Heap} {f : Addr} {fd : FuncData} (M : Mg mg) (F : FunD K "_law_caller" "_law_caller" (defArgs s__law_caller) (defBody s__law_caller) (defScope s__law_caller) [] [] f fd) (c__law_code_at : Ow P w K mg base 1 "_law_code_at" ["codes", "address"] (sp0 K 2 F__law_code_at)) (c__law_rule_at : Ow P w K mg base 1 "_law_rule_at" ["code", "inner"] (sp0 K 2 F__law_rule_at)) : FnOk P w K mg base CX0 2 f fd ["codes", "stack", "address", "top", "registers"] (sp0 K 5 F__law_caller) := by
  have hN := sc__law_caller.nd
  refine ok_def0 F sc__law_caller fun cdv A outer s H E hr => ?_
  have hc : (cxOf CX0 P w K mg base ["codes", "stack", "address", "top", "registers", "code", "rule", "place", "table", "name", "far"] "_law_caller" (defScope s__law_caller) f cdv A outer s H E).nox.calm = true := rfl
  exact (fs_cons (fs_set (i := 5) hN (fe_callO c__law_code_at hr (fl_cons (fv_name (pv 0)) (fl_cons (fv_name (pv 2)) fl_nil)) (by first | decide | omega | (simp only [Nat.add_eq]; omega)))) (fs_cons (fs_set (i := 6) hN (fe_if (ft_notN (fo_name (pv 5))) (fe_callO c__law_rule_at hr (fl_cons (fv_name (pv 5)) (fl_cons (fv_e (fe_op o2_sub op_sub (fo_name (pv 2)) (fo_e (fe_ix o2_ixA (ix_A hr.u1) (fo_name (pv 5)) (fo_v fv_int) (fun _ _ => rfl))))) fl_nil)) (by first | decide | omega | (simp only [Nat.add_eq]; omega))) (fe_v fv_non))) (fs_cons (fs_if (PW.pt (fw_or (ft_isN (fo_name (pv 6))) (fw_or1 (ft_cmp o2_ltI op_lt (fo_e (fe_op o2_sub op_sub (fo_e (fe_op o2_sub op_sub (fo_name (pv 3)) (fo_v fv_int))) (fo_e (fe_ix o2_ixA (ix_A hr.u1) (fo_name (pv 6)) (fo_v fv_int) (fun _ _ => rfl))))) (fo_v fv_int) (nomark _))))) (fs_one (fs_ret (fe_v fv_non))) fs_nil) (fs_cons (fs_parT hc (gns_cons (i := 7) hN (gns_cons (i := 8) hN gns_nil)) (fm_cons (fe_op o2_sub op_sub (fo_e (fe_op o2_sub op_sub (fo_name (pv 3)) (fo_v fv_int))) (fo_e (fe_ix o2_ixA (ix_A hr.u1) (fo_name (pv 6)) (fo_v fv_int) (fun _ _ => rfl)))) (fm_cons (fe_callTy on_dict (cr_dictOf hc) M.dict (fa_cons (fo_name (pv 4)) fa_nil)) fm_nil))) (fs_cons (fs_for PassesOwn.never hc (fi_val (fv_e (fe_ix o2_ixA (ix_A hr.u1) (fo_name (pv 6)) (fo_v fv_int) (fun _ _ => rfl)))) (fg_tup hc (fgs_cons (fg_name hN) (fgs_cons (fg_name hN) fgs_nil))) (fs_one (fs_asg (fv_e (fe_ix o2_ixA (ix_A hr.u1) (fo_name (pv 1)) (fo_e (fe_op o2_add op_addD (fo_name (pv 7)) (fo_name (pv 10)))) (fun _ _ => rfl))) (fg_sub hr.u1 (pv 8) (fv_name (pv 9)))))) (fs_one (fs_ret (fe_v (fv_tup (fl_cons (fv_e (fe_ix o2_ixA (ix_A hr.u1) (fo_name (pv 1)) (fo_name (pv 7)) (fun _ _ => rfl))) (fl_cons (fv_name (pv 7)) (fl_cons (fv_e (fe_callTy on_tuple cr_tupOf M.tuple (fa_cons (fo_e (fe_lc (own := [("name", 9)]) hc hN (fi_val (fv_e (fe_callB on_sort (cr_sortG hc hr.u64) M.sorted (fa_cons (fo_name (pv 8)) fa_nil)))) (blkOf (by kernel_rfl)) (by decide) (fun _ _ _ _ _ => (fg_name hN)) (fun _ _ _ _ _ => ft_none) (fun _ _ _ _ _ => (fv_tup (fl_cons (fv_name (pv 9)) (fl_cons (fv_e (fe_ix o2_ixA (ix_A hr.u1) (fo_name (pv 8)) (fo_name (pv 9)) (fun _ _ => rfl))) fl_nil)))))) fa_nil))) fl_nil))))))))))))
theorem ok__law_caller {P : Program} {w : World} {K : PySem.W.Frag} {mg : Str → Option Value} {base : Heap} {f : Addr} {fd : FuncData} (M : Mg mg) (F : FunD K "_law_caller" "_law_caller" (defArgs s__law_caller) (defBody s__law_caller) (defScope s__law_caller) [] [] f fd) (c__law_code_at : Ow P w K mg base 1 "_law_code_at" ["codes", "address"] (sp0 K 2 F__law_code_at)) (c__law_rule_at : Ow P w K mg base 1 "_law_rule_at" ["code", "inner"] (sp0 K 2 F__law_rule_at)) (hm : mg "_law_caller" = some (.ref f)) : Ow P w K mg base 2 "_law_caller" ["codes", "stack", "address", "top", "registers"] (sp0 K 5 F__law_caller) :=
  ⟨f, fd, hm, F.kp, F.bindsN fun _ _ _ _ _ _ us hl => match us, hl with | [_, _, _, _, _], _ => rfl, fn__law_caller M F c__law_code_at c__law_rule_at⟩
def b__law_world : Sv := sSeq (sSet 2 (fLst (lCons (fC (.int 0)) (lCons (fC (.int 0)) (lNil))))) (sSeq (sFor (itV (fName 1)) (gT 4 (gsCons (gN 3) (gsCons (gN 4) (gsCons (gN 5) (gsCons (gN 6) (gsNil)))))) (sSet 2 (f2 (fSlot 2) (toO (fLr2 (fName 4) (toV (f2 (fSlot 4) (fSlot 5) (dAdd))))) (dAdd)))) (sSeq (sSet 7 (fN (aCons (toO (fLc [8] (itR (aCons (toO (f2 (svO (fC (.int 1))) (toO (fCallW 1 0 (lCons (fC (.int 9)) (lNil)) F__law_next)) (dAdd))) (aNil)) range1D) (gN 8) (tTrue) (toV (fIf (tB1 (f2 (toO (fCallW 1 0 (lCons (fC (.int 3)) (lNil)) F__law_next)) (svO (fC (.int 0))) (isI iGt))) (f2 (fSlot 2) (toO (fCallW 1 0 (lCons (toV (fN (aCons (fSlot 2) (aNil)) dLen)) (lNil)) F__law_next)) dIxA) (fCallW 1 0 (lCons (fC (.int 30)) (lNil)) F__law_next))))) (aNil)) dTuple)) (sSeq (sSet 9 (f2 (fSlot 2) (toO (fCallW 1 0 (lCons (toV (fN (aCons (fSlot 2) (aNil)) dLen)) (lNil)) F__law_next)) dIxA)) (sSeq (sSet 10 (fN (aCons (toO (fLc [3] (itV (fTup (lCons (fC (.str "a")) (lCons (fC (.str "b")) (lNil))))) (gN 3) (tB1 (f2 (toO (fCallW 1 0 (lCons (fC (.int 2)) (lNil)) F__law_next)) (svO (fC (.int 0))) (dEq))) (fTup (lCons (fName 3) (lCons (toV (fCallW 1 0 (lCons (fC (.int 9)) (lNil)) F__law_next)) (lNil)))))) (aNil)) dTuple)) (sRet (ofV (fTup (lCons (fName 7) (lCons (fName 9) (lCons (toV (f2 (svO (fC (.int 1))) (toO (fCallW 1 0 (lCons (toV (fN (aCons (fSlot 7) (aNil)) dLen)) (lNil)) F__law_next)) (dAdd))) (lCons (fName 10) (lNil))))))))))))
def F__law_world : D → List D → Option (D × Bool × D) := mkW 11 b__law_world
theorem sc__law_world : FnScope ["w", "codes", "spots", "name", "begin", "size", "table", "stack", "k", "address", "registers"] ["w", "codes"] (defScope s__law_world) := ⟨rfl, rfl, rfl, by decide +kernel, rfl, by decide +kernel, by decide +kernel⟩
theorem fn__law_world {P : Program} {w : World} {K : PySem.W.Frag} {mg : Str → Option Value} {base : Heap} {f : Addr} {fd : FuncData} (M : Mg mg) (F : FunD K "_law_world" "_law_world" (defArgs s__law_world) (defBody s__law_world) (defScope s__law_world) [] [] f fd) (c__law_next : Ow P w K mg base 1 "_law_next" ["w", "many"] (spW K 1 F__law_next)) : FnOk P w K mg base CX0 2 f fd ["w", "codes"] (spW K 1 F__law_world) := by
  have hN := sc__law_world.nd
  refine ok_defW (np := 1) F sc__law_world rfl (by decide) fun cdv A outer s H E hr => ?_
  have hc : (cxOf CX0 P w K mg base ["w", "codes", "spots", "name", "begin", "size", "table", "stack", "k", "address", "registers"] "_law_world" (defScope s__law_world) f cdv A outer s H E).nox.calm = true := rfl
  exact (fs_cons (fs_set (i := 2) hN (fe_lst (fl_cons fv_int (fl_cons fv_int fl_nil)))) (fs_cons (fs_for PassesOwn.never hc (fi_val (fv_name (pv 1))) (fg_tup hc (fgs_cons (fg_name hN) (fgs_cons (fg_name hN) (fgs_cons (fg_name hN) (fgs_cons (fg_name hN) fgs_nil))))) (fs_one (fs_set (i := 2) hN (fe_op o2_add op_addD (fo_name (pv 2)) (fo_e (fe_lr2 hc M.list M.range (fv_name (pv 4)) (fv_e (fe_op o2_add op_addD (fo_name (pv 4)) (fo_name (pv 5)))))))))) (fs_cons (fs_set (i := 7) hN (fe_callTy on_tuple cr_tupOf M.tuple (fa_cons (fo_e (fe_lc (own := [("k", 8)]) hc hN (fi_range1 M.range (fa_cons (fo_e (fe_op o2_add op_addD (fo_v fv_int) (fo_e (fe_callWO c__law_next hr (pv 0) (fl_cons fv_int fl_nil) (by first | decide | omega | (simp only [Nat.add_eq]; omega)))))) fa_nil)) (blkOf (by kernel_rfl)) (by decide) (fun _ _ _ _ _ => (fg_name hN)) (fun _ _ _ _ _ => ft_none) (fun _ _ _ _ _ => (fv_e (fe_if (ft_cmp o2_gtI op_gt (fo_e (fe_callWO c__law_next hr (pv 0) (fl_cons fv_int fl_nil) (by first | decide | omega | (simp only [Nat.add_eq]; omega)))) (fo_v fv_int) (nomark _)) (fe_ix o2_ixA (ix_A hr.u1) (fo_name (pv 2)) (fo_e (fe_callWO c__law_next hr (pv 0) (fl_cons (fv_e (fe_callB on_len cr_lenA M.len (fa_cons (fo_name (pv 2)) fa_nil))) fl_nil) (by first | decide | omega | (simp only [Nat.add_eq]; omega)))) (fun _ _ => rfl)) (fe_callWO c__law_next hr (pv 0) (fl_cons fv_int fl_nil) (by first | decide | omega | (simp only [Nat.add_eq]; omega)))))))) fa_nil))) (fs_cons (fs_set (i := 9) hN (fe_ix o2_ixA (ix_A hr.u1) (fo_name (pv 2)) (fo_e (fe_callWO c__law_next hr (pv 0) (fl_cons (fv_e (fe_callB on_len cr_lenA M.len (fa_cons (fo_name (pv 2)) fa_nil))) fl_nil) (by first | decide | omega | (simp only [Nat.add_eq]; omega)))) (fun _ _ => rfl))) (fs_cons (fs_set (i := 10) hN (fe_callTy on_tuple cr_tupOf M.tuple (fa_cons (fo_e (fe_lc (own := [("name", 3)]) hc hN (fi_val (fv_tup (fl_cons fv_str (fl_cons fv_str fl_nil)))) (blkOf (by kernel_rfl)) (by decide) (fun _ _ _ _ _ => (fg_name hN)) (fun _ _ _ _ _ => (ft_one (ft_cmp o2_eq (op_eqD hr.u64) (fo_e (fe_callWO c__law_next hr (pv 0) (fl_cons fv_int fl_nil) (by first | decide | omega | (simp only [Nat.add_eq]; omega)))) (fo_v fv_int) (nomark _)))) (fun _ _ _ _ _ => (fv_tup (fl_cons (fv_name (pv 3)) (fl_cons (fv_e (fe_callWO c__law_next hr (pv 0) (fl_cons fv_int fl_nil) (by first | decide | omega | (simp only [Nat.add_eq]; omega)))) fl_nil)))))) fa_nil))) (fs_one (fs_ret (fe_v (fv_tup (fl_cons (fv_name (pv 7)) (fl_cons (fv_name (pv 9)) (fl_cons (fv_e (fe_op o2_add op_addD (fo_v fv_int) (fo_e (fe_callWO c__law_next hr (pv 0) (fl_cons (fv_e (fe_callB on_len cr_lenA M.len (fa_cons (fo_name (pv 7)) fa_nil))) fl_nil) (by first | decide | omega | (simp only [Nat.add_eq]; omega)))))) (fl_cons (fv_name (pv 10)) fl_nil)))))))))))))
theorem ok__law_world {P : Program} {w : World} {K : PySem.W.Frag} {mg : Str → Option Value} {base : Heap} {f : Addr} {fd : FuncData} (M : Mg mg) (F : FunD K "_law_world" "_law_world" (defArgs s__law_world) (defBody s__law_world) (defScope s__law_world) [] [] f fd) (c__law_next : Ow P w K mg base 1 "_law_next" ["w", "many"] (spW K 1 F__law_next)) (hm : mg "_law_world" = some (.ref f)) : Ow P w K mg base 2 "_law_world" ["w", "codes"] (spW K 1 F__law_world) :=
  ⟨f, fd, hm, F.kp, F.bindsN fun _ _ _ _ _ _ us hl => match us, hl with | [_, _], _ => rfl, fn__law_world M F c__law_next⟩
def b_law : Sv := sSeq (sSet 1 (fDisp (lCons (fC (.str "draws")) (lCons (toV (fCall 2 (lCons (fName 0) (lCons (fC (.int 200)) (lNil))) F__law_draws)) (lCons (fC (.str "at")) (lCons (fC (.int 0)) (lNil))))))) (sSeq (sFor (itR (aCons (svO (fC (.int 5))) (aNil)) range1D) (gN 2) (sSeq (sSet 3 (fCallW 0 1 (lNil) F__law_codes)) (sSeq (sSet 4 (fLst (lNil))) (sSeq (sFor (itV (fName 3)) (gT 4 (gsCons (gN 5) (gsCons (gN 6) (gsCons (gN 7) (gsCons (gN 8) (gsNil)))))) (sSet 4 (f2 (fSlot 4) (toO (fLr2 (fName 6) (toV (f2 (fSlot 6) (fSlot 7) (dAdd))))) (dAdd)))) (sSeq (sAsg (toV (fCallW 1 1 (lCons (fName 3) (lNil)) F__law_world)) (gT 4 (gsCons (gN 9) (gsCons (gN 10) (gsCons (gN 11) (gsCons (gN 12) (gsNil))))))) (sSeq (sSet 13 (fN (aCons (toO (fN (aCons (toO (f2 (toO (fLc [14] (itV (fName 4)) (gN 14) (tB1 (f2 (toO (fCallW 1 1 (lCons (fC (.int 2)) (lNil)) F__law_next)) (svO (fC (.int 0))) (dEq))) (fName 14))) (toO (fLst (lCons (toV (fCallW 1 1 (lCons (fC (.int 30)) (lNil)) F__law_next)) (lNil)))) (dAdd))) (aNil)) dSortSet)) (aNil)) dTuple)) (sSeq (sSet 15 (f1 (toO (fLc [16] (itR (aCons (toO (fN (aCons (fSlot 9) (aNil)) dLen)) (aNil)) range1D) (gN 16) (tAndF (tB1 (f2 (fSlot 16) (fSlot 11) (isI iLt))) (tB1 (f2 (toO (f2 (toO (f2 (fSlot 9) (fSlot 16) dIxA)) (svO (fC (.int 1))) (isI iSub))) (fSlot 13) (dIn)))) (fName 16))) dRev)) (sSeq (sSet 17 (fLc [16] (itV (fName 15)) (gN 16) (tTrue) (toV (fCall 2 (lCons (fName 3) (lCons (toV (f2 (fSlot 9) (fSlot 16) dIxA)) (lNil))) F__law_code_at)))) (sSeq (sIf (tOrF (tB1 (f2 (toO (fCall 4 (lCons (fName 3) (lCons (fName 9) (lCons (fName 11) (lCons (fName 13) (lNil))))) F_guesses)) (toO (fN (aCons (fSlot 15) (aNil)) dTuple)) (dNe))) (tB1 (f2 (toO (fCall 4 (lCons (fName 3) (lCons (fName 9) (lCons (fName 11) (lCons (fName 13) (lNil))))) F_guessed_names)) (toO (fN (aCons (toO (fLc [18] (itV (fName 17)) (gN 18) (tB1 (fIs (fSlot 18) (fun d => !isND d))) (toV (f2 (fSlot 18) (svO (fC (.int 0))) dIxA)))) (aNil)) dTuple)) (dNe)))) (sRet (ofV (fC (.bool false)))) (sNx)) (sSeq (sParN [19, 20] (mCons (fLst (lNil)) (mCons (ofV (fTup (lCons (fName 10) (lCons (fName 11) (lCons (fName 12) (lNil)))))) (mNil)))) (sSeq (whileL (tB1 (fIs (fSlot 20) (fun d => !isND d))) (sSeq (sSet 20 (fCall 5 (lCons (fName 3) (lCons (fName 9) (lCons (toV (f2 (fSlot 20) (svO (fC (.int 0))) dIxA)) (lCons (toV (f2 (fSlot 20) (svO (fC (.int 1))) dIxA)) (lCons (toV (f2 (fSlot 20) (svO (fC (.int 2))) dIxA)) (lNil)))))) F__law_caller)) (sSet 19 (f2 (fSlot 19) (toO (fIf (tB1 (fIs (fSlot 20) (fun d => !isND d))) (fLst (lCons (toV (f2 (fSlot 20) (svO (fC (.int 1))) dIxA)) (lNil))) (fLst (lNil)))) (dAdd)))) fuelN) (sSeq (sIf (tB1 (f2 (toO (fCall 6 (lCons (fName 3) (lCons (fName 9) (lCons (fName 10) (lCons (fName 11) (lCons (fName 12) (lCons (fName 13) (lNil))))))) F_false_guesses)) (toO (fN (aCons (toO (fN (aCons (toO (fLc [16] (itV (fName 15)) (gN 16) (tB1 (f2 (fSlot 16) (fSlot 19) (dNotIn))) (fName 16))) (aNil)) dSort)) (aNil)) dTuple)) (dNe))) (sRet (ofV (fC (.bool false)))) (sNx)) (sSeq (sSet 21 (fCallW 1 1 (lCons (fC (.int 9)) (lNil)) F__law_next)) (sSeq (sIf (tOrF (tB1 (f2 (toO (fCall 2 (lCons (fName 3) (lCons (fName 21) (lNil))) F_moved)) (toO (fN (aCons (toO (fLc [5, 6, 7, 8] (itV (fName 3)) (gT 4 (gsCons (gN 5) (gsCons (gN 6) (gsCons (gN 7) (gsCons (gN 8) (gsNil)))))) (tTrue) (fTup (lCons (fName 5) (lCons (toV (f2 (fSlot 6) (fSlot 21) (dAdd))) (lCons (fName 7) (lCons (fName 8) (lNil)))))))) (aNil)) dTuple)) (dNe))) (tB1 (f2 (toO (fCall 2 (lCons (toV (fCall 2 (lCons (fName 3) (lCons (fName 21) (lNil))) F_moved)) (lCons (toV (f2 (svO (fC (.int 0))) (fSlot 21) (isI iSub))) (lNil))) F_moved)) (fSlot 3) (dNe)))) (sRet (ofV (fC (.bool false)))) (sNx)) (sSeq (sSet 22 (f2 (toO (fCallW 1 1 (lCons (fC (.int 12)) (lNil)) F__law_next)) (svO (fC (.int 5))) (isI iSub))) (sSeq (sSet 23 (fN (aCons (toO (fLc [24] (itR (aCons (toO (f2 (svO (fC (.int 1))) (toO (fCallW 1 1 (lCons (fC (.int 3)) (lNil)) F__law_next)) (dAdd))) (aNil)) range1D) (gN 24) (tTrue) (toV (f2 (toO (f2 (fSlot 4) (toO (fCallW 1 1 (lCons (toV (fN (aCons (fSlot 4) (aNil)) dLen)) (lNil)) F__law_next)) dIxA)) (fSlot 22) (dAdd))))) (aNil)) dTuple)) (sSeq (sSet 25 (fLc [26] (itR (aCons (toO (f2 (svO (fC (.int 0))) (svO (fC (.int 60))) (isI iSub))) (aCons (svO (fC (.int 61))) (aNil))) range2D) (gN 26) (tB1 (f2 (toO (fLc [27] (itV (fName 23)) (gN 27) (tB1 (f2 (toO (f2 (fSlot 27) (fSlot 26) (isI iSub))) (fSlot 4) (dNotIn))) (fName 27))) (toO (fLst (lNil))) (dEq))) (fName 26))) (sIf (tOrF (tB1 (f2 (toO (fCall 2 (lCons (fName 3) (lCons (fName 23) (lNil))) F_offsets_for)) (toO (fN (aCons (fSlot 25) (aNil)) dTuple)) (dNe))) (tB1 (f2 (fSlot 22) (fSlot 25) (dNotIn)))) (sRet (ofV (fC (.bool false)))) (sNx))))))))))))))))))) (sRet (ofV (fC (.bool true)))))
def F_law : List D → Option (D × Bool) := mk0 28 b_law
theorem sc_law : FnScope ["script", "w", "turn", "codes", "spots", "name", "begin", "size", "table", "stack", "address", "top", "registers", "calls", "spot", "due", "place", "names", "code", "right", "now", "by", "shift", "asked", "k", "able", "n", "one"] ["script"] (defScope s_law) := ⟨rfl, rfl, rfl, by decide +kernel, rfl, by decide +kernel, by decide +kernel⟩
theorem fn_law {P : Program} {w : World} {K : PySem.W.Frag} {mg : Str → Option Value} {base : Heap} {f : Addr} {fd : FuncData} (M : Mg mg) (F : FunD K "law" "law" (defArgs s_law) (defBody s_law) (defScope s_law) [] [] f fd) (c__law_draws : Ow P w K mg base 1 "_law_draws" ["script", "many"] (sp0 K 2 F__law_draws)) (c__law_codes : Ow P w K mg base 2 "_law_codes" ["w"] (spW K 0 F__law_codes)) (c__law_world : Ow P w K mg base 2 "_law_world" ["w", "codes"] (spW K 1 F__law_world)) (c__law_next : Ow P w K mg base 1 "_law_next" ["w", "many"] (spW K 1 F__law_next)) (c__law_code_at : Ow P w K mg base 1 "_law_code_at" ["codes", "address"] (sp0 K 2 F__law_code_at)) (c_guesses : Ow P w K mg base 1 "guesses" ["codes", "stack", "top", "calls"] (sp0 K 4 F_guesses)) (c_guessed_names : Ow P w K mg base 3 "guessed_names" ["codes", "stack", "top", "calls"] (sp0 K 4 F_guessed_names)) (c__law_caller : Ow P w K mg base 2 "_law_caller" ["codes", "stack", "address", "top", "registers"] (sp0 K 5 F__law_caller)) (c_false_guesses : Ow P w K mg base 3 "false_guesses" ["codes", "stack", "address", "top", "registers", "calls"] (sp0 K 6 F_false_guesses)) (c_moved : Ow P w K mg base 1 "moved" ["codes", "by"] (sp0 K 2 F_moved)) (c_offsets_for : Ow P w K mg base 1 "offsets_for" ["codes", "addresses"] (sp0 K 2 F_offsets_for)) : FnOk P w K mg base CX0 4 f fd ["script"] (sp0 K 1 F_law) := by
  have hN := sc_law.nd
  refine ok_def0 F sc_law fun cdv A outer s H E hr => ?_
  have hc : (cxOf CX0 P w K mg base ["script", "w", "turn", "codes", "spots", "name", "begin", "size", "table", "stack", "address", "top", "registers", "calls", "spot", "due", "place", "names", "code", "right", "now", "by", "shift", "asked", "k", "able", "n", "one"] "law" (defScope s_law) f cdv A outer s H E).nox.calm = true := rfl
  exact (fs_cons (fs_set (i := 1) hN (fe_disp (pps_cons fv_str (fv_e (fe_callO c__law_draws hr (fl_cons (fv_name (pv 0)) (fl_cons fv_int fl_nil)) (by first | decide | omega | (simp only [Nat.add_eq]; omega)))) (pps_cons fv_str fv_int pps_nil)) (fps_cons (fps_cons fps_nil)))) (fs_cons (fs_for PassesOwn.never hc (fi_range1 M.range (fa_cons (fo_v fv_int) fa_nil)) (fg_name hN) (fs_cons (fs_set (i := 3) hN (fe_callWO c__law_codes hr (pv 1) fl_nil (by first | decide | omega | (simp only [Nat.add_eq]; omega)))) (fs_cons (fs_set (i := 4) hN (fe_lst fl_nil)) (fs_cons (fs_for PassesOwn.never hc (fi_val (fv_name (pv 3))) (fg_tup hc (fgs_cons (fg_name hN) (fgs_cons (fg_name hN) (fgs_cons (fg_name hN) (fgs_cons (fg_name hN) fgs_nil))))) (fs_one (fs_set (i := 4) hN (fe_op o2_add op_addD (fo_name (pv 4)) (fo_e (fe_lr2 hc M.list M.range (fv_name (pv 6)) (fv_e (fe_op o2_add op_addD (fo_name (pv 6)) (fo_name (pv 7)))))))))) (fs_cons (fs_asg (fv_e (fe_callWO c__law_world hr (pv 1) (fl_cons (fv_name (pv 3)) fl_nil) (by first | decide | omega | (simp only [Nat.add_eq]; omega)))) (fg_tup hc (fgs_cons (fg_name hN) (fgs_cons (fg_name hN) (fgs_cons (fg_name hN) (fgs_cons (fg_name hN) fgs_nil)))))) (fs_cons (fs_set (i := 13) hN (fe_callTy on_tuple cr_tupOf M.tuple (fa_cons (fo_e (fe_sortSet hc M.sorted M.set (fa_cons (fo_e (fe_op o2_add op_addD (fo_e (fe_lc (own := [("spot", 14)]) hc hN (fi_val (fv_name (pv 4))) (blkOf (by kernel_rfl)) (by decide) (fun _ _ _ _ _ => (fg_name hN)) (fun _ _ _ _ _ => (ft_one (ft_cmp o2_eq (op_eqD hr.u64) (fo_e (fe_callWO c__law_next hr (pv 1) (fl_cons fv_int fl_nil) (by first | decide | omega | (simp only [Nat.add_eq]; omega)))) (fo_v fv_int) (nomark _)))) (fun _ _ _ _ _ => (fv_name (pv 14))))) (fo_e (fe_lst (fl_cons (fv_e (fe_callWO c__law_next hr (pv 1) (fl_cons fv_int fl_nil) (by first | decide | omega | (simp only [Nat.add_eq]; omega)))) fl_nil))))) fa_nil))) fa_nil))) (fs_cons (fs_set (i := 15) hN (fe_rev (fo_e (fe_lc (own := [("place", 16)]) hc hN (fi_range1 M.range (fa_cons (fo_e (fe_callB on_len cr_lenA M.len (fa_cons (fo_name (pv 9)) fa_nil))) fa_nil)) (blkOf (by kernel_rfl)) (by decide) (fun _ _ _ _ _ => (fg_name hN)) (fun _ _ _ _ _ => (ft_one (PW.pt (fw_and (ft_cmp o2_ltI op_lt (fo_name (pv 16)) (fo_name (pv 11)) (nomark _)) (fw_and1 (ft_cmp o2_in (op_inA hr.u65) (fo_e (fe_op o2_sub op_sub (fo_e (fe_ix o2_ixA (ix_A hr.u1) (fo_name (pv 9)) (fo_name (pv 16)) (fun _ _ => rfl))) (fo_v fv_int))) (fo_name (pv 13)) (by rfl))))))) (fun _ _ _ _ _ => (fv_name (pv 16))))))) (fs_cons (fs_setLc (i := 17) (own := [("place", 16)]) hc hN (fi_val (fv_name (pv 15))) (blkOf (by kernel_rfl)) (by decide) (fun _ _ _ _ _ => (fg_name hN)) (fun _ _ _ _ _ => ft_none) (fun _ _ _ _ _ => (fv_e (fe_callO c__law_code_at hr (fl_cons (fv_name (pv 3)) (fl_cons (fv_e (fe_ix o2_ixA (ix_A hr.u1) (fo_name (pv 9)) (fo_name (pv 16)) (fun _ _ => rfl))) fl_nil)) (by first | decide | omega | (simp only [Nat.add_eq]; omega)))))) (fs_cons (fs_if (PW.pt (fw_or (ft_cmp o2_ne (op_neD hr.u64) (fo_e (fe_callO c_guesses hr (fl_cons (fv_name (pv 3)) (fl_cons (fv_name (pv 9)) (fl_cons (fv_name (pv 11)) (fl_cons (fv_name (pv 13)) fl_nil)))) (by first | decide | omega | (simp only [Nat.add_eq]; omega)))) (fo_e (fe_callTy on_tuple cr_tupOf M.tuple (fa_cons (fo_name (pv 15)) fa_nil))) (nomark _)) (fw_or1 (ft_cmp o2_ne (op_neD hr.u64) (fo_e (fe_callO c_guessed_names hr (fl_cons (fv_name (pv 3)) (fl_cons (fv_name (pv 9)) (fl_cons (fv_name (pv 11)) (fl_cons (fv_name (pv 13)) fl_nil)))) (by first | decide | omega | (simp only [Nat.add_eq]; omega)))) (fo_e (fe_callTy on_tuple cr_tupOf M.tuple (fa_cons (fo_e (fe_lc (own := [("code", 18)]) hc hN (fi_val (fv_name (pv 17))) (blkOf (by kernel_rfl)) (by decide) (fun _ _ _ _ _ => (fg_name hN)) (fun _ _ _ _ _ => (ft_one (ft_notN (fo_name (pv 18))))) (fun _ _ _ _ _ => (fv_e (fe_ix o2_ixA (ix_A hr.u1) (fo_name (pv 18)) (fo_v fv_int) (fun _ _ => rfl)))))) fa_nil))) (nomark _))))) (fs_one (fs_ret (fe_v fv_bl))) fs_nil) (fs_cons (fs_parT hc (gns_cons (i := 19) hN (gns_cons (i := 20) hN gns_nil)) (fm_cons (fe_lst fl_nil) (fm_cons (fe_v (fv_tup (fl_cons (fv_name (pv 10)) (fl_cons (fv_name (pv 11)) (fl_cons (fv_name (pv 12)) fl_nil))))) fm_nil))) (fs_cons (fs_while PassesOwn.never (ft_notN (fo_name (pv 20))) (fs_cons (fs_set (i := 20) hN (fe_callO c__law_caller hr (fl_cons (fv_name (pv 3)) (fl_cons (fv_name (pv 9)) (fl_cons (fv_e (fe_ix o2_ixA (ix_A hr.u1) (fo_name (pv 20)) (fo_v fv_int) (fun _ _ => rfl))) (fl_cons (fv_e (fe_ix o2_ixA (ix_A hr.u1) (fo_name (pv 20)) (fo_v fv_int) (fun _ _ => rfl))) (fl_cons (fv_e (fe_ix o2_ixA (ix_A hr.u1) (fo_name (pv 20)) (fo_v fv_int) (fun _ _ => rfl))) fl_nil))))) (by first | decide | omega | (simp only [Nat.add_eq]; omega)))) (fs_one (fs_set (i := 19) hN (fe_op o2_add op_addD (fo_name (pv 19)) (fo_e (fe_if (ft_notN (fo_name (pv 20))) (fe_lst (fl_cons (fv_e (fe_ix o2_ixA (ix_A hr.u1) (fo_name (pv 20)) (fo_v fv_int) (fun _ _ => rfl))) fl_nil)) (fe_lst fl_nil)))))))) (fs_cons (fs_if (ft_cmp o2_ne (op_neD hr.u64) (fo_e (fe_callO c_false_guesses hr (fl_cons (fv_name (pv 3)) (fl_cons (fv_name (pv 9)) (fl_cons (fv_name (pv 10)) (fl_cons (fv_name (pv 11)) (fl_cons (fv_name (pv 12)) (fl_cons (fv_name (pv 13)) fl_nil)))))) (by first | decide | omega | (simp only [Nat.add_eq]; omega)))) (fo_e (fe_callTy on_tuple cr_tupOf M.tuple (fa_cons (fo_e (fe_callB on_sort (cr_sortG hc hr.u64) M.sorted (fa_cons (fo_e (fe_lc (own := [("place", 16)]) hc hN (fi_val (fv_name (pv 15))) (blkOf (by kernel_rfl)) (by decide) (fun _ _ _ _ _ => (fg_name hN)) (fun _ _ _ _ _ => (ft_one (ft_cmp o2_notIn (op_notInA hr.u65) (fo_name (pv 16)) (fo_name (pv 19)) (by rfl)))) (fun _ _ _ _ _ => (fv_name (pv 16))))) fa_nil))) fa_nil))) (nomark _)) (fs_one (fs_ret (fe_v fv_bl))) fs_nil) (fs_cons (fs_set (i := 21) hN (fe_callWO c__law_next hr (pv 1) (fl_cons fv_int fl_nil) (by first | decide | omega | (simp only [Nat.add_eq]; omega)))) (fs_cons (fs_if (PW.pt (fw_or (ft_cmp o2_ne (op_neD hr.u64) (fo_e (fe_callO c_moved hr (fl_cons (fv_name (pv 3)) (fl_cons (fv_name (pv 21)) fl_nil)) (by first | decide | omega | (simp only [Nat.add_eq]; omega)))) (fo_e (fe_callTy on_tuple cr_tupOf M.tuple (fa_cons (fo_e (fe_lc (own := [("name", 5), ("begin", 6), ("size", 7), ("table", 8)]) hc hN (fi_val (fv_name (pv 3))) (blkOf (by kernel_rfl)) (by decide) (fun _ _ _ _ _ => (fg_tup hc (fgs_cons (fg_name hN) (fgs_cons (fg_name hN) (fgs_cons (fg_name hN) (fgs_cons (fg_name hN) fgs_nil)))))) (fun _ _ _ _ _ => ft_none) (fun _ _ _ _ _ => (fv_tup (fl_cons (fv_name (pv 5)) (fl_cons (fv_e (fe_op o2_add op_addD (fo_name (pv 6)) (fo_name (pv 21)))) (fl_cons (fv_name (pv 7)) (fl_cons (fv_name (pv 8)) fl_nil)))))))) fa_nil))) (nomark _)) (fw_or1 (ft_cmp o2_ne (op_neD hr.u64) (fo_e (fe_callO c_moved hr (fl_cons (fv_e (fe_callO c_moved hr (fl_cons (fv_name (pv 3)) (fl_cons (fv_name (pv 21)) fl_nil)) (by first | decide | omega | (simp only [Nat.add_eq]; omega)))) (fl_cons (fv_e (fe_op o2_sub op_sub (fo_v fv_int) (fo_name (pv 21)))) fl_nil)) (by first | decide | omega | (simp only [Nat.add_eq]; omega)))) (fo_name (pv 3)) (nomark _))))) (fs_one (fs_ret (fe_v fv_bl))) fs_nil) (fs_cons (fs_set (i := 22) hN (fe_op o2_sub op_sub (fo_e (fe_callWO c__law_next hr (pv 1) (fl_cons fv_int fl_nil) (by first | decide | omega | (simp only [Nat.add_eq]; omega)))) (fo_v fv_int))) (fs_cons (fs_set (i := 23) hN (fe_callTy on_tuple cr_tupOf M.tuple (fa_cons (fo_e (fe_lc (own := [("k", 24)]) hc hN (fi_range1 M.range (fa_cons (fo_e (fe_op o2_add op_addD (fo_v fv_int) (fo_e (fe_callWO c__law_next hr (pv 1) (fl_cons fv_int fl_nil) (by first | decide | omega | (simp only [Nat.add_eq]; omega)))))) fa_nil)) (blkOf (by kernel_rfl)) (by decide) (fun _ _ _ _ _ => (fg_name hN)) (fun _ _ _ _ _ => ft_none) (fun _ _ _ _ _ => (fv_e (fe_op o2_add op_addD (fo_e (fe_ix o2_ixA (ix_A hr.u1) (fo_name (pv 4)) (fo_e (fe_callWO c__law_next hr (pv 1) (fl_cons (fv_e (fe_callB on_len cr_lenA M.len (fa_cons (fo_name (pv 4)) fa_nil))) fl_nil) (by first | decide | omega | (simp only [Nat.add_eq]; omega)))) (fun _ _ => rfl))) (fo_name (pv 22))))))) fa_nil))) (fs_cons (fs_setLc (i := 25) (own := [("n", 26)]) hc hN (fi_range2 M.range (fa_cons (fo_e (fe_op o2_sub op_sub (fo_v fv_int) (fo_v fv_int))) (fa_cons (fo_v fv_int) fa_nil))) (blkOf (by kernel_rfl)) (by decide) (fun _ _ _ _ _ => (fg_name hN)) (fun _ _ _ _ _ => (ft_one (ft_cmp o2_eq (op_eqD hr.u64) (fo_e (fe_lc (own := [("one", 27)]) hc hN (fi_val (fv_name (pv 23))) (blkOf (by kernel_rfl)) (by decide) (fun _ _ _ _ _ => (fg_name hN)) (fun _ _ _ _ _ => (ft_one (ft_cmp o2_notIn (op_notInA hr.u65) (fo_e (fe_op o2_sub op_sub (fo_name (pv 27)) (fo_name (pv 26)))) (fo_name (pv 4)) (by rfl)))) (fun _ _ _ _ _ => (fv_name (pv 27))))) (fo_e (fe_lst fl_nil)) (nomark _)))) (fun _ _ _ _ _ => (fv_name (pv 26)))) (fs_one (fs_if (PW.pt (fw_or (ft_cmp o2_ne (op_neD hr.u64) (fo_e (fe_callO c_offsets_for hr (fl_cons (fv_name (pv 3)) (fl_cons (fv_name (pv 23)) fl_nil)) (by first | decide | omega | (simp only [Nat.add_eq]; omega)))) (fo_e (fe_callTy on_tuple cr_tupOf M.tuple (fa_cons (fo_name (pv 25)) fa_nil))) (nomark _)) (fw_or1 (ft_cmp o2_notIn (op_notInA hr.u65) (fo_name (pv 22)) (fo_name (pv 25)) (by rfl))))) (fs_one (fs_ret (fe_v fv_bl))) fs_nil))))))))))))))))))) (fs_one (fs_ret (fe_v fv_bl)))))
end Hd
/-! Px: plain laws of the functions that the bodies are. -/
namespace Fx
open PySem PySem.Spec L2
/-! ### what a value that is there keeps -/
def Wp {α : Type} (x : Option α) (Q : α → Prop) : Prop := ∃ y, x = some y ∧ Q y
@[simp] theorem wp_some {α : Type} {y : α} {Q : α → Prop} : Wp (some y) Q ↔ Q y := ⟨fun ⟨_, e, q⟩ => by cases e; exact q, fun q => ⟨y, rfl, q⟩⟩
@[simp] theorem wp_none {α : Type} {Q : α → Prop} : Wp (none : Option α) Q ↔ False := ⟨fun ⟨_, e, _⟩ => (by cases e), False.elim⟩
@[simp] theorem wp_bind {α β : Type} {x : Option α} {f : α → Option β} {Q : β → Prop} : Wp (x.bind f) Q ↔ Wp x fun y => Wp (f y) Q :=
  ⟨fun ⟨z, e, q⟩ => let ⟨y, e1, e2⟩ := Option.bind_eq_some_iff.mp e; ⟨y, e1, z, e2, q⟩, fun ⟨y, e1, z, e2, q⟩ => ⟨z, Option.bind_eq_some_iff.mpr ⟨y, e1, e2⟩, q⟩⟩
@[simp] theorem wp_map {α β : Type} {x : Option α} {f : α → β} {Q : β → Prop} : Wp (x.map f) Q ↔ Wp x fun y => Q (f y) :=
  ⟨fun ⟨z, e, q⟩ => by obtain ⟨y, e1, e2⟩ := Option.map_eq_some_iff.mp e; subst e2; exact ⟨y, e1, q⟩, fun ⟨y, e1, q⟩ => ⟨f y, by rw [e1]; rfl, q⟩⟩
theorem wp_ite {α : Type} {c : Prop} [Decidable c] {x y : Option α} {Q : α → Prop} : Wp (if c then x else y) Q ↔ ((c → Wp x Q) ∧ (¬ c → Wp y Q)) := by
  by_cases h : c
  · rw [if_pos h]; exact ⟨fun q => ⟨fun _ => q, fun n => absurd h n⟩, fun q => q.1 h⟩
  · rw [if_neg h]; exact ⟨fun q => ⟨fun n => absurd n h, fun _ => q⟩, fun q => q.2 h⟩
theorem wp_mono {α : Type} {x : Option α} {Q R : α → Prop} (h : Wp x Q) (k : ∀ y, Q y → R y) : Wp x R := let ⟨y, e, q⟩ := h; ⟨y, e, k y q⟩
theorem for_inv {s : Gv} {b : Sv} (I : List D → En → Prop) {Q : Out × En → Prop}
    (step : ∀ d r en, I (d :: r) en → Wp (s d en) fun e1 => Wp (b e1) fun y => match y.1 with
      | .nx => I r y.2
      | .ct => I r y.2
      | .bk => Q (.nx, y.2)
      | .rt d c => Q (.rt d c, y.2)) (fin : ∀ en, I [] en → Q (.nx, en)) : ∀ (ds : List D) (en : En), I ds en → Wp (forL s b ds en) Q
  | [], en, h => ⟨_, rfl, fin en h⟩
  | d :: ds, en, h => by
    obtain ⟨e1, p1, y, p2, q⟩ := step d ds en h
    have ih := fun en h => for_inv I step fin ds en h
    obtain ⟨o, e2⟩ := y
    refine wp_bind.mpr ⟨e1, p1, wp_bind.mpr ⟨_, p2, ?_⟩⟩
    cases o with
    | nx => exact ih _ q
    | ct => exact ih _ q
    | bk => exact ⟨_, rfl, q⟩
    | rt d c => exact ⟨_, rfl, q⟩
theorem while_inv {t : Tv} {b : Sv} (I : Nat → En → Prop) {Q : Out × En → Prop}
    (step : ∀ n en, I n en → Wp (t en) fun x => if x.1 = true then ∃ m, n = m + 1 ∧ Wp (b x.2) fun y => match y.1 with
      | .nx => I m y.2
      | .ct => I m y.2
      | .bk => Q (.nx, y.2)
      | .rt d c => Q (.rt d c, y.2)
      else Q (.nx, x.2)) : ∀ (n : Nat) (en : En) (f : Nat), I n en → n < f → Wp (whileL t b f en) Q := by
  intro n
  induction n with
  | zero =>
    intro en f h hf
    obtain ⟨f, rfl⟩ : ∃ g, f = g + 1 := ⟨f - 1, by omega⟩
    obtain ⟨x, p1, q⟩ := step 0 en h
    refine wp_bind.mpr ⟨x, p1, ?_⟩
    by_cases hx : x.1 = true
    · rw [if_pos hx] at q
      obtain ⟨m, e, _⟩ := q
      cases e
    · rw [if_neg hx] at q ⊢
      exact ⟨_, rfl, q⟩
  | succ n ih =>
    intro en f h hf
    obtain ⟨f, rfl⟩ : ∃ g, f = g + 1 := ⟨f - 1, by omega⟩
    obtain ⟨x, p1, q⟩ := step (n + 1) en h
    refine wp_bind.mpr ⟨x, p1, ?_⟩
    by_cases hx : x.1 = true
    · rw [if_pos hx] at q ⊢
      obtain ⟨m, e, y, p2, q⟩ := q
      cases e
      refine wp_bind.mpr ⟨y, p2, ?_⟩
      obtain ⟨o, e2⟩ := y
      cases o with
      | nx => exact ih _ f q (by omega)
      | ct => exact ih _ f q (by omega)
      | bk => exact ⟨_, rfl, q⟩
      | rt d c => exact ⟨_, rfl, q⟩
    · rw [if_neg hx] at q ⊢
      exact ⟨_, rfl, q⟩
/-! ### a slot that may hold what it will, but nothing lent -/
def jk (x : Option (D × Bool)) : Option (D × Fl) := x.map fun p => (p.1, flag p.2)
theorem jk_none : (none : Option (D × Fl)) = jk none := rfl
theorem jk_sh (d : D) : (some (d, Fl.sh) : Option (D × Fl)) = jk (some (d, false)) := rfl
theorem jk_own (d : D) : (some (d, Fl.own) : Option (D × Fl)) = jk (some (d, true)) := rfl
theorem free1_jk {en : En} {i : Nat} {x : Option (D × Bool)} (h : en[i]? = some (jk x)) : free1 en i = true := by
  unfold free1
  rw [h]
  cases x with
  | none => rfl
  | some p =>
    obtain ⟨d, b⟩ := p
    cases b <;> rfl
@[simp] theorem free_cons (x : Option (D × Fl)) (en : En) (i : Nat) : free1 (x :: en) (i + 1) = free1 en i := by
  unfold free1
  rw [List.getElem?_cons_succ]
@[simp] theorem free_jk (x : Option (D × Bool)) (en : En) : free1 (jk x :: en) 0 = true := free1_jk (x := x) rfl
@[simp] theorem free_sh (d : D) (en : En) : free1 (some (d, Fl.sh) :: en) 0 = true := rfl
@[simp] theorem free_own (d : D) (en : En) : free1 (some (d, Fl.own) :: en) 0 = true := rfl
@[simp] theorem free_none (en : En) : free1 (none :: en) 0 = true := rfl
@[simp] theorem flag_t : flag true = .own := rfl
@[simp] theorem flag_f : flag false = .sh := rfl
@[simp] theorem e_sNx  (x : Option (D × Fl)) (en : En) : sNx (x :: en) = some (.nx, (x :: en)) := id rfl
theorem e_sSeq (a b : Sv) (x : Option (D × Fl)) (en : En) : sSeq a b (x :: en) = (a (x :: en)).bind fun z => match z.1 with
  | .nx => b z.2
  | o => some (o, z.2) := id rfl
@[simp] theorem e_sExpr (f : Ev) (x : Option (D × Fl)) (en : En) : sExpr f (x :: en) = (f (x :: en)).map fun z => (.nx, z.2.2) := id rfl
@[simp] theorem e_sRet (f : Ev) (x : Option (D × Fl)) (en : En) : sRet f (x :: en) = (f (x :: en)).map fun z => (.rt z.1 z.2.1, z.2.2) := id rfl
@[simp] theorem e_sRetN  (x : Option (D × Fl)) (en : En) : sRetN (x :: en) = some (.rt .none false, (x :: en)) := id rfl
@[simp] theorem e_sBreak  (x : Option (D × Fl)) (en : En) : sBreak (x :: en) = some (.bk, (x :: en)) := id rfl
@[simp] theorem e_sCont  (x : Option (D × Fl)) (en : En) : sCont (x :: en) = some (.ct, (x :: en)) := id rfl
@[simp] theorem e_sIf (t : Tv) (a b : Sv) (x : Option (D × Fl)) (en : En) : sIf t a b (x :: en) = (t (x :: en)).bind fun z => if z.1 = true then a z.2 else b z.2 := id rfl
@[simp] theorem e_sSet (i : Nat) (f : Ev) (x : Option (D × Fl)) (en : En) : sSet i f (x :: en) = (f (x :: en)).bind fun z => if free1 z.2.2 i = true then some (.nx, z.2.2.set i (some (z.1, flag z.2.1))) else none := id rfl
@[simp] theorem e_sAsg (f : Vv) (s : Gv) (x : Option (D × Fl)) (en : En) : sAsg f s (x :: en) = (f (x :: en)).bind fun z => (s z.1 z.2).map fun e' => (.nx, e') := id rfl
theorem e_sFor (it : Lv) (s : Gv) (b : Sv) (x : Option (D × Fl)) (en : En) : sFor it s b (x :: en) = (it (x :: en)).bind fun z => forL s b z.1 z.2 := id rfl
@[simp] theorem e_sParN (is : List Nat) (l : Mv) (x : Option (D × Fl)) (en : En) : sParN is l (x :: en) = (l (x :: en)).bind fun z => (putAll is z.1 z.2).map fun e' => (.nx, e') := id rfl
@[simp] theorem e_f1 (p : Ov) (g : D → Option (D × Bool)) (x : Option (D × Fl)) (en : En) : f1 p g (x :: en) = (p (x :: en)).bind fun z => (z.1.late z.2).bind fun d => (g d).map fun y => (y.1, y.2, z.2) := id rfl
@[simp] theorem e_f2 (p q : Ov) (g : D → D → Option (D × Bool)) (x : Option (D × Fl)) (en : En) : f2 p q g (x :: en) = (p (x :: en)).bind fun z => (q z.2).bind fun y => (z.1.late y.2).bind fun d => (y.1.late y.2).bind fun e => (g d e).map fun w => (w.1, w.2, y.2) := id rfl
@[simp] theorem e_fN (a : Av) (g : List D → Option (D × Bool)) (x : Option (D × Fl)) (en : En) : fN a g (x :: en) = (a (x :: en)).bind fun z => (lates z.2 z.1).bind fun ds => (g ds).map fun w => (w.1, w.2, z.2) := id rfl
@[simp] theorem e_fC (d : D) (x : Option (D × Fl)) (en : En) : fC d (x :: en) = some (d, (x :: en)) := id rfl
@[simp] theorem e_toV (f : Ev) (x : Option (D × Fl)) (en : En) : toV f (x :: en) = (f (x :: en)).map fun z => (z.1, z.2.2) := by
  cases h : f (x :: en) <;> simp [toV, h]
@[simp] theorem e_ofV (f : Vv) (x : Option (D × Fl)) (en : En) : ofV f (x :: en) = (f (x :: en)).map fun z => (z.1, false, z.2) := by
  cases h : f (x :: en) <;> simp [ofV, h]
@[simp] theorem e_toO (f : Ev) (x : Option (D × Fl)) (en : En) : toO f (x :: en) = (f (x :: en)).map fun z => (.tv z.1, z.2.2) := by
  cases h : f (x :: en) <;> simp [toO, h]
@[simp] theorem e_svO (f : Vv) (x : Option (D × Fl)) (en : En) : svO f (x :: en) = (f (x :: en)).map fun z => (.sv z.1, z.2) := by
  cases h : f (x :: en) <;> simp [svO, h]
@[simp] theorem e_fName (i : Nat) (x : Option (D × Fl)) (en : En) : fName i (x :: en) = match (x :: en)[i]? with
  | some (some (d, .sh)) => some (d, (x :: en))
  | some (some (d, .own)) => some (d, (x :: en).set i (some (d, .sh)))
  | _ => none := id rfl
@[simp] theorem e_fSlot (i : Nat) (x : Option (D × Fl)) (en : En) : fSlot i (x :: en) = (peek (x :: en) i).map fun _ => (.slot i, (x :: en)) := by
  unfold fSlot
  cases h : peek (x :: en) i <;> simp
@[simp] theorem e_aNil  (x : Option (D × Fl)) (en : En) : aNil (x :: en) = some ([], (x :: en)) := id rfl
@[simp] theorem e_aCons (p : Ov) (r : Av) (x : Option (D × Fl)) (en : En) : aCons p r (x :: en) = (p (x :: en)).bind fun z => (r z.2).map fun y => (z.1 :: y.1, y.2) := by
  unfold aCons
  cases h : p (x :: en) with
  | none => rfl
  | some z =>
    obtain ⟨z1, z2⟩ := z
    cases h2 : r z2 <;> simp [h2]
@[simp] theorem e_lNil  (x : Option (D × Fl)) (en : En) : lNil (x :: en) = some ([], (x :: en)) := id rfl
@[simp] theorem e_lCons (p : Vv) (r : Lv) (x : Option (D × Fl)) (en : En) : lCons p r (x :: en) = (p (x :: en)).bind fun z => (r z.2).map fun y => (z.1 :: y.1, y.2) := by
  unfold lCons
  cases h : p (x :: en) with
  | none => rfl
  | some z =>
    obtain ⟨z1, z2⟩ := z
    cases h2 : r z2 <;> simp [h2]
@[simp] theorem e_mNil  (x : Option (D × Fl)) (en : En) : mNil (x :: en) = some ([], (x :: en)) := id rfl
@[simp] theorem e_mCons (p : Ev) (r : Mv) (x : Option (D × Fl)) (en : En) : mCons p r (x :: en) = (p (x :: en)).bind fun z => (r z.2.2).map fun y => ((z.1, z.2.1) :: y.1, y.2) := id rfl
@[simp] theorem e_fTup (l : Lv) (x : Option (D × Fl)) (en : En) : fTup l (x :: en) = (l (x :: en)).bind fun z => if z.1.length ≤ sizeLine then some (.tuple z.1, z.2) else none := by
  cases h : l (x :: en) <;> simp [fTup, h]
@[simp] theorem e_fLst (l : Lv) (x : Option (D × Fl)) (en : En) : fLst l (x :: en) = (l (x :: en)).bind fun z => if z.1.length ≤ sizeLine then some (.list z.1, true, z.2) else none := by
  cases h : l (x :: en) <;> simp [fLst, h]
@[simp] theorem e_fDisp (l : Lv) (x : Option (D × Fl)) (en : En) : fDisp l (x :: en) = (l (x :: en)).bind fun z => (pairsFlat z.1).bind fun ks => if ks.length ≤ 15 then some (.dict (mergeD [] ks), true, z.2) else none := id rfl
@[simp] theorem e_fIs (p : Ov) (g : D → Bool) (x : Option (D × Fl)) (en : En) : fIs p g (x :: en) = f1 p (fun d => some (.bool (g d), false)) (x :: en) := id rfl
@[simp] theorem e_fIsi (p : Ov) (T : String) (x : Option (D × Fl)) (en : En) : fIsi p T (x :: en) = f1 p (fun d => (kitB (tyD d) T).map fun b => (.bool b, false)) (x :: en) := id rfl
@[simp] theorem e_fAnd (f g : Ev) (x : Option (D × Fl)) (en : En) : fAnd f g (x :: en) = (f (x :: en)).bind fun z => match z.1 with
  | .bool c => if c = true then g z.2.2 else some (.bool false, false, z.2.2)
  | _ => none := id rfl
@[simp] theorem e_fOr (f g : Ev) (x : Option (D × Fl)) (en : En) : fOr f g (x :: en) = (f (x :: en)).bind fun z => match z.1 with
  | .bool c => if c = true then some (.bool true, false, z.2.2) else g z.2.2
  | _ => none := id rfl
@[simp] theorem e_fNot (f : Ev) (x : Option (D × Fl)) (en : En) : fNot f (x :: en) = (f (x :: en)).bind fun z => match z.1 with
  | .bool c => some (.bool (!c), false, z.2.2)
  | _ => none := id rfl
@[simp] theorem e_fIf (t : Tv) (f g : Ev) (x : Option (D × Fl)) (en : En) : fIf t f g (x :: en) = (t (x :: en)).bind fun z => if z.1 = true then f z.2 else g z.2 := id rfl
@[simp] theorem e_tB1 (f : Ev) (x : Option (D × Fl)) (en : En) : tB1 f (x :: en) = (f (x :: en)).bind fun z => match z.1 with
  | .bool b => some (b, z.2.2)
  | _ => none := id rfl
@[simp] theorem e_tNotF (f : Tv) (x : Option (D × Fl)) (en : En) : tNotF f (x :: en) = (f (x :: en)).map fun z => (!z.1, z.2) := id rfl
@[simp] theorem e_tAndF (f g : Tv) (x : Option (D × Fl)) (en : En) : tAndF f g (x :: en) = (f (x :: en)).bind fun z => if z.1 = true then g z.2 else some (false, z.2) := id rfl
@[simp] theorem e_tOrF (f g : Tv) (x : Option (D × Fl)) (en : En) : tOrF f g (x :: en) = (f (x :: en)).bind fun z => if z.1 = true then some (true, z.2) else g z.2 := id rfl
@[simp] theorem e_tIfF (c f g : Tv) (x : Option (D × Fl)) (en : En) : tIfF c f g (x :: en) = (c (x :: en)).bind fun z => if z.1 = true then f z.2 else g z.2 := id rfl
@[simp] theorem e_tTrue  (x : Option (D × Fl)) (en : En) : tTrue (x :: en) = some (true, (x :: en)) := id rfl
theorem e_itV (f : Vv) (x : Option (D × Fl)) (en : En) : itV f (x :: en) = (f (x :: en)).bind fun z => (seqD z.1).map fun ds => (ds, z.2) := id rfl
theorem e_itR (a : Av) (g : List D → Option (List D)) (x : Option (D × Fl)) (en : En) : itR a g (x :: en) = (a (x :: en)).bind fun z => (lates z.2 z.1).bind fun ds => (g ds).map fun r => (r, z.2) := id rfl
@[simp] theorem e_fCall (np : Nat) (l : Lv) (F : List D → Option (D × Bool)) (x : Option (D × Fl)) (en : En) : fCall np l F (x :: en) = (l (x :: en)).bind fun z => if z.1.length = np then (F z.1).map fun y => (y.1, y.2, z.2) else none := id rfl
@[simp] theorem e_gN (i : Nat) (d : D) (x : Option (D × Fl)) (en : En) : gN i d (x :: en) = if free1 (x :: en) i = true then some ((x :: en).set i (some (d, .sh))) else none := id rfl
@[simp] theorem e_pNone  (x : Option (D × Fl)) (en : En) : pNone (x :: en) = some (none, (x :: en)) := id rfl
@[simp] theorem e_pInt (p : Ov) (x : Option (D × Fl)) (en : En) : pInt p (x :: en) = (p (x :: en)).bind fun z => (z.1.late z.2).bind fun d => match d with
  | .int i => some (some i, z.2)
  | _ => none := id rfl
@[simp] theorem e_fSl (p : Ov) (l h : Pv) (g : D → Option Int → Option Int → Option (D × Bool)) (x : Option (D × Fl)) (en : En) : fSl p l h g (x :: en) = (p (x :: en)).bind fun z => (l z.2).bind fun y => (h y.2).bind fun w => (z.1.late w.2).bind fun d => (g d y.1 w.1).map fun u => (u.1, u.2, w.2) := id rfl
@[simp] theorem e_fLr1 (f : Vv) (x : Option (D × Fl)) (en : En) : fLr1 f (x :: en) = (f (x :: en)).bind fun z => match z.1 with
  | .int j => if rgOk 0 j = true then some (.list (rgD 0 j), true, z.2) else none
  | _ => none := id rfl
@[simp] theorem e_fLr2 (f g : Vv) (x : Option (D × Fl)) (en : En) : fLr2 f g (x :: en) = (f (x :: en)).bind fun z => (g z.2).bind fun y => match z.1, y.1 with
  | .int i, .int j => if rgOk i j = true then some (.list (rgD i j), true, y.2) else none
  | _, _ => none := id rfl
@[simp] theorem isI_ii (g : Int → Int → Option D) (i j : Int) : isI g (.int i) (.int j) = (g i j).map fun z => (z, false) := id rfl
@[simp] theorem dAdd_ii (i j : Int) : dAdd (.int i) (.int j) = some (.int (i + j), false) := id rfl
@[simp] theorem dAdd_ll (a b : List D) : dAdd (.list a) (.list b) = if a.length + b.length ≤ sizeLine then some (.list (a ++ b), true) else none := id rfl
@[simp] theorem dAdd_tt (a b : List D) : dAdd (.tuple a) (.tuple b) = if a.length + b.length ≤ sizeLine then some (.tuple (a ++ b), false) else none := id rfl
@[simp] theorem dInt_i (i : Int) : dInt [.int i] = some (.int i, false) := id rfl
@[simp] theorem dAbs_i (i : Int) : dAbs [.int i] = some (.int (if i < 0 then -i else i), false) := id rfl
@[simp] theorem dNeg_i (i : Int) : dNeg (.int i) = some (.int (-i), false) := id rfl
@[simp] theorem dLen_l (ds : List D) : dLen [.list ds] = some (.int (ds.length : Nat), false) := id rfl
@[simp] theorem dLen_t (ds : List D) : dLen [.tuple ds] = some (.int (ds.length : Nat), false) := id rfl
@[simp] theorem dList_l (ds : List D) : dList [.list ds] = some (.list ds, true) := id rfl
@[simp] theorem dList_t (ds : List D) : dList [.tuple ds] = some (.list ds, true) := id rfl
@[simp] theorem dTuple_l (ds : List D) : dTuple [.list ds] = some (.tuple ds, false) := id rfl
@[simp] theorem dTuple_t (ds : List D) : dTuple [.tuple ds] = some (.tuple ds, false) := id rfl
@[simp] theorem dIxA_l (ds : List D) (i : Int) : dIxA (.list ds) (.int i) = (atI ds i).map fun z => (z, false) := id rfl
@[simp] theorem dIxA_t (ds : List D) (i : Int) : dIxA (.tuple ds) (.int i) = (atI ds i).map fun z => (z, false) := id rfl
@[simp] theorem dIxA_d (es : List (D × D)) (k : D) : dIxA (.dict es) k = (keyOf k).bind fun k => (Fx.dictGet es k).map fun d => (d, false) := by cases k <;> rfl
@[simp] theorem keyOf_i (i : Int) : keyOf (.int i) = some (.inl i) := id rfl
@[simp] theorem keyOf_s (z : Str) : keyOf (.str z) = some (.inr z) := id rfl
@[simp] theorem mAppend_l (ds : List D) (x : D) : mAppend (.list ds) [x] = if ds.length < sizeLine then some (.none, false, .list (ds ++ [x])) else none := id rfl
@[simp] theorem dSetA_d (es : List (D × D)) (k d : D) : dSetA (.dict es) k d = (keyOf k).bind fun k => if es.length < sizeLine then some (.dict (Fx.dictPut es k d)) else none := by cases k <;> rfl
@[simp] theorem dGetA_d (es : List (D × D)) (k : D) : dGetA (.dict es) k = (keyOf k).bind fun k => Fx.dictGet es k := id rfl
@[simp] theorem zAdd_ii (i j : Int) : zAdd (.int i) (.int j) = some (.int (i + j)) := id rfl
@[simp] theorem zSub_ii (i j : Int) : zSub (.int i) (.int j) = some (.int (i - j)) := id rfl
@[simp] theorem iSub_e (i j : Int) : iSub i j = some (.int (i - j)) := id rfl
@[simp] theorem iLt_e (i j : Int) : iLt i j = some (.bool (decide (i < j))) := id rfl
@[simp] theorem iLe_e (i j : Int) : iLe i j = some (.bool (decide (i ≤ j))) := id rfl
@[simp] theorem iGt_e (i j : Int) : iGt i j = some (.bool (decide (j < i))) := id rfl
@[simp] theorem iGe_e (i j : Int) : iGe i j = some (.bool (decide (j ≤ i))) := id rfl
@[simp] theorem iMod_e (i j : Int) : iMod i j = if 0 < j then some (.int (i % j)) else none := id rfl
@[simp] theorem iMul_e (i j : Int) : iMul i j = if i.natAbs < 18446744073709551616 ∨ j.natAbs < 18446744073709551616 then some (.int (i * j)) else none := id rfl
@[simp] theorem iDiv_e (i j : Int) : iDiv i j = if 0 < j ∧ j < 1073741824 then some (.int (i / j)) else none := id rfl
@[simp] theorem pow18 : iPow 10 18 = some (.int 1000000000000000000) := by
  unfold iPow
  rw [if_pos (by decide)]
  rfl
@[simp] theorem seqD_l (ds : List D) : seqD (.list ds) = some ds := id rfl
@[simp] theorem seqD_t (ds : List D) : seqD (.tuple ds) = some ds := id rfl
theorem inLine_le {i : Int} (h0 : 0 ≤ i) (h1 : i ≤ 1000000000) : inLine i = true := by
  unfold inLine
  rw [Bool.and_eq_true, decide_eq_true_eq, decide_eq_true_eq]
  constructor <;> omega
theorem range1D_e (j : Int) : range1D [.int j] = if inLine j = true then some (rngD 0 1 j.toNat) else none := id rfl
theorem range2D_e (i j : Int) : range2D [.int i, .int j] = if (inLine i && inLine j) = true then some (rngD i 1 (j - i).toNat) else none := id rfl
theorem range1_nat {n : Nat} (h : n ≤ 1000000000) : range1D [.int (n : Int)] = some (rngD 0 1 n) := by
  rw [range1D_e, if_pos (inLine_le (by omega) (by omega)), Int.toNat_natCast]
@[simp] theorem range1_60 : range1D [.int 60] = some (rngD 0 1 60) := range1_nat (n := 60) (by decide)
@[simp] theorem late_sv (en : En) (d : D) : (Hd.sv d).late en = some d := id rfl
@[simp] theorem late_tv (en : En) (d : D) : (Hd.tv d).late en = some d := id rfl
@[simp] theorem late_slot (en : En) (i : Nat) : (Hd.slot i).late en = peek en i := id rfl
@[simp] theorem peek_0 (d : D) (f : Fl) (en : En) : peek (some (d, f) :: en) 0 = some d := id rfl
@[simp] theorem peek_s (x : Option (D × Fl)) (en : En) (i : Nat) : peek (x :: en) (i + 1) = peek en i := by
  unfold peek
  rw [List.getElem?_cons_succ]
@[simp] theorem lates_nil (en : En) : lates en [] = some [] := id rfl
@[simp] theorem lates_cons (en : En) (h : Hd) (hs : List Hd) : lates en (h :: hs) = (h.late en).bind fun d => (lates en hs).map fun ds => d :: ds := by
  show (match h.late en, lates en hs with
    | some d, some ds => some (d :: ds)
    | _, _ => none) = _
  cases h.late en <;> cases lates en hs <;> rfl
@[simp] theorem isOwn_0 (d : D) (en : En) : isOwn (some (d, .own) :: en) 0 = true := id rfl
@[simp] theorem isOwn_0l (d : D) (en : En) : isOwn (some (d, .lent) :: en) 0 = true := id rfl
@[simp] theorem isOwn_s (x : Option (D × Fl)) (en : En) (i : Nat) : isOwn (x :: en) (i + 1) = isOwn en i := by
  unfold isOwn
  rw [List.getElem?_cons_succ]
@[simp] theorem isLst_l (ds : List D) : isLst (.list ds) = true := id rfl
@[simp] theorem isDct_l (ds : List (D × D)) : isDct (.dict ds) = true := id rfl
@[simp] theorem e_fMut (i : Nat) (c : D → Bool) (l : Lv) (g : D → List D → Option (D × Bool × D)) (x : Option (D × Fl)) (en : En) : fMut i c l g (x :: en) = if isOwn (x :: en) i = true then (peek (x :: en) i).bind fun d0 => if c d0 = true then (l (x :: en)).bind fun z => match z.2[i]? with
  | some (some (d, f)) => if f = .sh then none else (g d z.1).map fun y => (y.1, y.2.1, z.2.set i (some (y.2.2, f)))
  | _ => none
  else none else none := id rfl
@[simp] theorem e_sAugN (i : Nat) (f : Vv) (h : D → D → Option D) (x : Option (D × Fl)) (en : En) : sAugN i f h (x :: en) = match (x :: en)[i]? with
  | some (some (d0, .sh)) => (f (x :: en)).bind fun z => (h d0 z.1).bind fun w => if free1 z.2 i = true then some (.nx, z.2.set i (some (w, .sh))) else none
  | _ => none := id rfl
@[simp] theorem e_sAugS (i : Nat) (f g : Vv) (h : D → D → Option D) (x : Option (D × Fl)) (en : En) : sAugS i f g h (x :: en) = if isOwn (x :: en) i = true then (f (x :: en)).bind fun z => (peek z.2 i).bind fun dw => (dGetA dw z.1).bind fun d0 => (g z.2).bind fun y => match y.2[i]? with
  | some (some (dw, fl)) => if fl = .sh then none else (h d0 y.1).bind fun w => (dSetA dw z.1 w).map fun u => (.nx, y.2.set i (some (u, fl)))
  | _ => none
  else none := id rfl
@[simp] theorem e_fCallW (np j : Nat) (l : Lv) (F : D → List D → Option (D × Bool × D)) (x : Option (D × Fl)) (en : En) : fCallW np j l F (x :: en) = if isOwn (x :: en) j = true then (l (x :: en)).bind fun z => match z.2[j]? with
  | some (some (dw, f)) => if f = .sh then none else if z.1.length = np then (F dw z.1).map fun y => (y.1, y.2.1, z.2.set j (some (y.2.2, f))) else none
  | _ => none
  else none := id rfl
@[simp] theorem e_sRetX (i : Nat) (x : Option (D × Fl)) (en : En) : sRetX i (x :: en) = match (x :: en)[i]? with
  | some (some (d, .sh)) => some (.rt d false, (x :: en))
  | some (some (d, .own)) => some (.rt d true, (x :: en).set i none)
  | _ => none := id rfl
@[simp] theorem e_gSubD (i : Nat) (f : Vv) (d : D) (x : Option (D × Fl)) (en : En) : gSubD i f d (x :: en) = if isOwn (x :: en) i = true then (f (x :: en)).bind fun z => match z.2[i]? with
  | some (some (dw, fl)) => if fl = .sh then none else (dSetA dw z.1 d).map fun w => z.2.set i (some (w, fl))
  | _ => none
  else none := id rfl
@[simp] theorem putAll_nil (en : En) : putAll [] [] en = some en := id rfl
@[simp] theorem putAll_cons (i : Nat) (is : List Nat) (d : D) (b : Bool) (ds : List (D × Bool)) (en : En) : putAll (i :: is) ((d, b) :: ds) en = if free1 en i = true then putAll is ds (en.set i (some (d, flag b))) else none := id rfl
@[simp] theorem gT_t (n : Nat) (r : List D → En → Option En) (ds : List D) (en : En) : gT n r (.tuple ds) en = if ds.length = n then r ds en else none := id rfl
@[simp] theorem gsNil_e (en : En) : gsNil [] en = some en := id rfl
@[simp] theorem gsCons_e (s : Gv) (r : List D → En → Option En) (d : D) (ds : List D) (en : En) : gsCons s r (d :: ds) en = (s d en).bind (r ds) := id rfl
@[simp] theorem mk0_e (n : Nat) (g : Sv) (ds : List D) : mk0 n g ds = (g (ds.map (fun d => some (d, Fl.sh)) ++ List.replicate (n - ds.length) none)).bind fun x => match x.1 with
  | .rt d b => some (d, b)
  | .nx => some (.none, false)
  | _ => none := id rfl
@[simp] theorem mkW_e (n : Nat) (g : Sv) (dw : D) (ds : List D) : mkW n g dw ds = (g (some (dw, Fl.lent) :: (ds.map (fun d => some (d, Fl.sh)) ++ List.replicate (n - 1 - ds.length) none))).bind fun x => (lentAt x.2 0).bind fun dw' => match x.1 with
  | .rt d b => some (d, b, dw')
  | .nx => some (.none, false, dw')
  | _ => none := id rfl
@[simp] theorem lentAt_0 (d : D) (en : En) : lentAt (some (d, .lent) :: en) 0 = some d := id rfl
@[simp] theorem isND_none : isND .none = true := id rfl
@[simp] theorem isND_int (i : Int) : isND (.int i) = false := id rfl
@[simp] theorem isND_bool (i : Bool) : isND (.bool i) = false := id rfl
@[simp] theorem isND_str (i : Str) : isND (.str i) = false := id rfl
@[simp] theorem isND_tup (i : List D) : isND (.tuple i) = false := id rfl
@[simp] theorem isND_lst (i : List D) : isND (.list i) = false := id rfl
@[simp] theorem isND_dct (i : List (D × D)) : isND (.dict i) = false := id rfl
@[simp] theorem sl_ok : sizeLine = 16777216 := sizeLine_eq
def LaterF (f : En → Prop) (e : En) : Prop := f e
@[simp] theorem wp_sSeq (a b : Sv) (x : Option (D × Fl)) (en : En) (Q : Out × En → Prop) : Wp (sSeq a b (x :: en)) Q ↔ Wp (a (x :: en)) fun y => match y.1 with
  | .nx => LaterF (fun e => Wp (b e) Q) y.2
  | o => Q (o, y.2) := by
  rw [e_sSeq, wp_bind]
  constructor
  · rintro ⟨⟨o, e⟩, h1, h2⟩
    refine ⟨_, h1, ?_⟩
    cases o with
    | nx => exact h2
    | bk => exact (wp_some (y := (Out.bk, e))).mp h2
    | ct => exact (wp_some (y := (Out.ct, e))).mp h2
    | rt d c => exact (wp_some (y := (Out.rt d c, e))).mp h2
  · rintro ⟨⟨o, e⟩, h1, h2⟩
    refine ⟨_, h1, ?_⟩
    cases o with
    | nx => exact h2
    | bk => exact (wp_some (y := (Out.bk, e))).mpr h2
    | ct => exact (wp_some (y := (Out.ct, e))).mpr h2
    | rt d c => exact (wp_some (y := (Out.rt d c, e))).mpr h2
@[simp] theorem wp_sFor (it : Lv) (s : Gv) (b : Sv) (x : Option (D × Fl)) (en : En) (Q : Out × En → Prop) : Wp (sFor it s b (x :: en)) Q ↔ Wp (it (x :: en)) fun z => Wp (forL s b z.1 z.2) Q := by rw [e_sFor, wp_bind]
@[simp] theorem wp_itR (a : Av) (g : List D → Option (List D)) (x : Option (D × Fl)) (en : En) (Q : List D × En → Prop) : Wp (itR a g (x :: en)) Q ↔ Wp (a (x :: en)) fun z => Wp (lates z.2 z.1) fun ds => Wp (g ds) fun r => Q (r, z.2) := by
  rw [e_itR, wp_bind]
  simp only [wp_bind, wp_map]
@[simp] theorem wp_itV (f : Vv) (x : Option (D × Fl)) (en : En) (Q : List D × En → Prop) : Wp (itV f (x :: en)) Q ↔ Wp (f (x :: en)) fun z => Wp (seqD z.1) fun ds => Q (ds, z.2) := by
  rw [e_itV, wp_bind]
  simp only [wp_map]
theorem later_i {f : En → Prop} {e : En} (h : f e) : LaterF f e := h
/-! ### comprehensions over values of one kind -/
theorem lc_typ {α : Type} {vs : List Nat} {s : Gv} {t : Tv} {f : Vv} {w : En} (enc : α → D) (e : α → En) (c : α → Bool) (g : α → D) (hw : wipeE w vs = w) : ∀ as : List α, (∀ a ∈ as, s (enc a) w = some (e a) ∧ t (e a) = some (c a, e a) ∧ (c a = true → f (e a) = some (g a, e a)) ∧ wipeE (e a) vs = w) →
    lcL vs s t f (as.map enc) w = some ((as.filter c).map g, w)
  | [], _ => rfl
  | a :: as, h => by
    obtain ⟨h1, h2, h3, h4⟩ := h a (List.mem_cons_self ..)
    have ih := lc_typ enc e c g hw as fun b hb => h b (List.mem_cons_of_mem _ hb)
    rw [List.map_cons]
    show ((s (enc a) (wipeE w vs)).bind _) = _
    rw [hw, h1]
    show ((t (e a)).bind _) = _
    rw [h2]
    by_cases hc : c a = true
    · show (if c a = true then (f (e a)).bind _ else _) = _
      rw [if_pos hc, h3 hc]
      show ((lcL vs s t f (as.map enc) (wipeE (e a) vs)).map _) = _
      rw [h4, ih, List.filter_cons_of_pos hc]
      rfl
    · show (if c a = true then _ else lcL vs s t f (as.map enc) (wipeE (e a) vs)) = _
      rw [if_neg hc, h4, ih, List.filter_cons_of_neg hc]
theorem flc_eq {vs : List Nat} {it : Lv} {s : Gv} {t : Tv} {f : Vv} {en en1 en2 : En} {ds rs : List D} (h1 : it en = some (ds, en1)) (h2 : lcL vs s t f ds (wipeE en1 vs) = some (rs, en2)) (hl : rs.length ≤ sizeLine) : fLc vs it s t f en = some (.list rs, true, backE en1 en2 vs) := by
  unfold fLc
  rw [h1]
  show ((lcL vs s t f ds (wipeE en1 vs)).bind _) = _
  rw [h2]
  exact if_pos hl
@[simp] theorem rgOk_n (i j : Int) : rgOk i j = (decide (-(2 ^ 62) ≤ i) && decide (i < 2 ^ 62) && decide (-(2 ^ 62) ≤ j) && decide (j < 2 ^ 62) && decide ((j - i).toNat ≤ 2 ^ 24)) := id rfl
theorem rgOk_le {i j : Int} (h0 : 0 ≤ i) (h1 : i ≤ 100000) (h2 : 0 ≤ j) (h3 : j ≤ 100000) : rgOk i j = true := by
  rw [rgOk_n]
  simp only [Bool.and_eq_true, decide_eq_true_eq]
  omega
/-! ### what may be compared -/
structure Sh (k : Nat) (d : D) : Prop where
  c : d.canLay0 = true
  p : d.depth ≤ k
theorem Sh.shaped {k : Nat} {d : D} (h : Sh k d) (hk : k ≤ 64) : SeqAt.shaped d = true := by
  unfold SeqAt.shaped
  rw [h.c, Bool.true_and, decide_eq_true_eq]
  exact Nat.le_trans h.p hk
theorem Sh.mono {k j : Nat} {d : D} (h : Sh k d) (hk : k ≤ j) : Sh j d := ⟨h.c, Nat.le_trans h.p hk⟩
theorem Sh.int (i : Int) : Sh 0 (.int i) := ⟨by simp [PyData.canLay0], Nat.le_refl _⟩
theorem Sh.str (i : Str) (h : PyData.strOk i = true) : Sh 0 (.str i) := ⟨by simp [PyData.canLay0, h], Nat.le_refl _⟩
theorem Sh.bool (i : Bool) : Sh 0 (.bool i) := ⟨by simp [PyData.canLay0], Nat.le_refl _⟩
theorem Sh.none : Sh 0 .none := ⟨by simp [PyData.canLay0], Nat.le_refl _⟩
theorem sh_all {k : Nat} : ∀ {ds : List D}, (∀ d ∈ ds, Sh k d) → PyData.canLayAll0 ds = true ∧ PyData.depthAll ds ≤ k
  | [], _ => ⟨by simp [PyData.canLayAll0], Nat.zero_le _⟩
  | d :: ds, h => by
    obtain ⟨a, b⟩ := h d (List.mem_cons_self ..)
    obtain ⟨a2, b2⟩ := sh_all fun d hd => h d (List.mem_cons_of_mem _ hd)
    refine ⟨by simp [PyData.canLayAll0, a, a2], ?_⟩
    show max _ _ ≤ k
    omega
theorem Sh.tup {k : Nat} {ds : List D} (h : ∀ d ∈ ds, Sh k d) : Sh (k + 1) (.tuple ds) := by
  obtain ⟨a, b⟩ := sh_all h
  exact ⟨by simp [PyData.canLay0, a], Nat.succ_le_succ b⟩
theorem Sh.lst {k : Nat} {ds : List D} (h : ∀ d ∈ ds, Sh k d) : Sh (k + 1) (.list ds) := by
  obtain ⟨a, b⟩ := sh_all h
  exact ⟨by simp [PyData.canLay0, a], Nat.succ_le_succ b⟩
theorem dNe_same {k : Nat} {d : D} (h : Sh k d) (hk : k ≤ 64) : dNe d d = some (.bool false, false) := by
  unfold dNe
  rw [h.shaped hk, SeqAt.eqv_refl d h.c]
  rfl
theorem dNe_of {k j : Nat} {d e : D} (h : Sh k d) (h' : Sh j e) (hk : k ≤ 64) (hj : j ≤ 64) : dNe d e = some (.bool (!PyData.eqv d e), false) := by
  unfold dNe
  rw [h.shaped hk, h'.shaped hj]
  rfl
theorem dEq_of {k j : Nat} {d e : D} (h : Sh k d) (h' : Sh j e) (hk : k ≤ 64) (hj : j ≤ 64) : dEq d e = some (.bool (PyData.eqv d e), false) := by
  unfold dEq
  rw [h.shaped hk, h'.shaped hj]
  rfl
theorem eqv_nil {ds : List D} : PyData.eqv (.list ds) (.list []) = ds.isEmpty := by
  cases ds <;> simp [PyData.eqv, PyData.eqvAll]
theorem lc_inv {vs : List Nat} {s : Gv} {t : Tv} {f : Vv} (I : List D → List D → En → Prop) (step : ∀ d r acc w, I (d :: r) acc w → Wp (s d (wipeE w vs)) fun e1 => Wp (t e1) fun x => if x.1 = true then Wp (f x.2) fun y => I r (acc ++ [y.1]) (wipeE y.2 vs) else I r acc (wipeE x.2 vs)) :
    ∀ (ds acc : List D) (w : En), I ds acc w → Wp (lcL vs s t f ds w) fun y => I [] (acc ++ y.1) y.2
  | [], acc, w, h => ⟨([], w), rfl, by show I [] (acc ++ []) w; rw [List.append_nil]; exact h⟩
  | d :: ds, acc, w, h => by
    obtain ⟨e1, p1, x, p2, q⟩ := step d ds acc w h
    show Wp ((s d (wipeE w vs)).bind _) _
    rw [p1]
    show Wp ((t e1).bind _) _
    rw [p2]
    show Wp (if x.1 = true then _ else _) _
    by_cases hx : x.1 = true
    · rw [if_pos hx] at q ⊢
      obtain ⟨y, p3, q⟩ := q
      obtain ⟨z, p4, q4⟩ := lc_inv I step ds _ _ q
      rw [p3]
      show Wp ((lcL vs s t f ds (wipeE y.2 vs)).map _) _
      rw [p4]
      refine ⟨_, rfl, ?_⟩
      rw [List.append_assoc] at q4
      exact q4
    · rw [if_neg hx] at q ⊢
      exact lc_inv I step ds _ _ q
theorem flc_wp {vs : List Nat} {it : Lv} {s : Gv} {t : Tv} {f : Vv} {en : En} {Q : D × Bool × En → Prop} (h : Wp (it en) fun x => Wp (lcL vs s t f x.1 (wipeE x.2 vs)) fun y => y.1.length ≤ sizeLine ∧ Q (.list y.1, true, backE x.2 y.2 vs)) : Wp (fLc vs it s t f en) Q := by
  obtain ⟨x, h1, y, h2, h3, q⟩ := h
  exact ⟨_, flc_eq h1 h2 h3, q⟩
theorem dEq_i (i j : Int) : dEq (.int i) (.int j) = some (.bool (decide (i = j)), false) := by
  rw [dEq_of (Sh.int i) (Sh.int j) (by omega) (by omega)]
  simp [PyData.eqv]
  rfl
@[simp] theorem wipeE_nil (en : En) : wipeE en [] = en := id rfl
@[simp] theorem wipeE_cons (en : En) (v : Nat) (vs : List Nat) : wipeE en (v :: vs) = (wipeE en vs).set v none := id rfl
@[simp] theorem backE_nil (e0 e1 : En) : backE e0 e1 [] = e1 := id rfl
end Fx
/-! PxI: lists of whole numbers. -/
namespace Fx
open PySem PySem.Spec L2
theorem sh_ints {k : Nat} (ns : List Int) : ∀ d ∈ ns.map PyData.int, Sh k d := fun d hd => by
  obtain ⟨i, _, rfl⟩ := List.mem_map.mp hd
  exact Sh.mono (Sh.int i) (Nat.zero_le _)
theorem any_ints (a : Int) (ns : List Int) : (ns.map PyData.int).any (fun z => PyData.eqv z (.int a)) = decide (a ∈ ns) := by
  rw [Bool.eq_iff_iff]
  simp only [List.any_eq_true, List.mem_map, decide_eq_true_eq]
  constructor
  · rintro ⟨_, ⟨n, hn, rfl⟩, e⟩
    simp [PyData.eqv] at e
    exact e ▸ hn
  · intro h
    exact ⟨_, ⟨a, h, rfl⟩, by simp [PyData.eqv]⟩
theorem memD_tI (a : Int) (ns : List Int) : memD (.int a) (.tuple (ns.map .int)) = some (decide (a ∈ ns)) := by
  have h1 : SeqAt.shaped (.int a) = true := (Sh.int a).shaped (by omega)
  have h2 : SeqAt.shaped (.tuple (ns.map PyData.int)) = true := (Sh.tup (k := 0) (sh_ints ns)).shaped (by omega)
  show (if (SeqAt.shaped (.int a) && SeqAt.shaped (.tuple (ns.map PyData.int))) = true then some ((ns.map PyData.int).any fun z => PyData.eqv z (.int a)) else none) = _
  rw [h1, h2, any_ints]
  rfl
theorem memD_lI (a : Int) (ns : List Int) : memD (.int a) (.list (ns.map .int)) = some (decide (a ∈ ns)) := by
  have h1 : SeqAt.shaped (.int a) = true := (Sh.int a).shaped (by omega)
  have h2 : SeqAt.shaped (.list (ns.map PyData.int)) = true := (Sh.lst (k := 0) (sh_ints ns)).shaped (by omega)
  show (if (SeqAt.shaped (.int a) && SeqAt.shaped (.list (ns.map PyData.int))) = true then some ((ns.map PyData.int).any fun z => PyData.eqv z (.int a)) else none) = _
  rw [h1, h2, any_ints]
  rfl
@[simp] theorem dIn_tI (a : Int) (ns : List Int) : dIn (.int a) (.tuple (ns.map .int)) = some (.bool (decide (a ∈ ns)), false) := by
  unfold dIn
  rw [memD_tI]
  rfl
@[simp] theorem dIn_lI (a : Int) (ns : List Int) : dIn (.int a) (.list (ns.map .int)) = some (.bool (decide (a ∈ ns)), false) := by
  unfold dIn
  rw [memD_lI]
  rfl
@[simp] theorem dNotIn_tI (a : Int) (ns : List Int) : dNotIn (.int a) (.tuple (ns.map .int)) = some (.bool (!decide (a ∈ ns)), false) := by
  unfold dNotIn
  rw [memD_tI]
  rfl
@[simp] theorem dNotIn_lI (a : Int) (ns : List Int) : dNotIn (.int a) (.list (ns.map .int)) = some (.bool (!decide (a ∈ ns)), false) := by
  unfold dNotIn
  rw [memD_lI]
  rfl
/-! ### sorted -/
def srtI (ns : List Int) : List Int := ns.mergeSort fun a b => decide (a ≤ b)
theorem le_int (a b : Int) : PySem.W.dataLe false (fun d : D => d) (.int a) (.int b) = decide (a ≤ b) := by
  by_cases h : a ≤ b
  · have h1 : ¬ b < a := by omega
    simp [PySem.W.dataLe, PySem.W.sortLe, PySem.W.keyToks, PyProof.Rows.listOrd, PyProof.Rows.itemOrd, PyProof.Rows.lexLt, PyProof.Rows.itemLt, h, h1]
  · have h1 : b < a := by omega
    simp [PySem.W.dataLe, PySem.W.sortLe, PySem.W.keyToks, PyProof.Rows.listOrd, PyProof.Rows.itemOrd, PyProof.Rows.lexLt, PyProof.Rows.itemLt, h, h1]
theorem srtD_ints (ns : List Int) : srtD (ns.map .int) = (srtI ns).map .int := by
  unfold srtD srtI
  rw [List.map_mergeSort]
  intro a _ b _
  exact (le_int a b).symm
theorem srtI_perm (ns : List Int) : (srtI ns).Perm ns := List.mergeSort_perm ns _
theorem srtI_mem {ns : List Int} {a : Int} : a ∈ srtI ns ↔ a ∈ ns := (srtI_perm ns).mem_iff
theorem srtI_le (ns : List Int) : (srtI ns).Pairwise (· ≤ ·) := by
  have h := List.pairwise_mergeSort (le := fun a b : Int => decide (a ≤ b)) (fun a b c => by simp only [decide_eq_true_eq]; omega) (fun a b => by simp only [Bool.or_eq_true, decide_eq_true_eq]; omega) ns
  exact h.imp fun z => of_decide_eq_true z
theorem srtI_lt {ns : List Int} (h : ns.Nodup) : (srtI ns).Pairwise (· < ·) := lt_of_le_nodup _ (srtI_le ns) ((srtI_perm ns).nodup_iff.mpr h)
theorem sortOk_ints {ns : List Int} (h : ns.length ≤ sizeLine) : sortOk (ns.map .int) = true := by
  unfold sortOk
  simp only [Bool.and_eq_true, Bool.or_eq_true, List.all_eq_true, decide_eq_true_eq, List.length_map]
  refine ⟨⟨⟨h, fun d hd e he => ?_⟩, .inr fun d hd => ?_⟩, fun d hd => ?_⟩
  · obtain ⟨i, _, rfl⟩ := List.mem_map.mp hd
    obtain ⟨j, _, rfl⟩ := List.mem_map.mp he
    simp [PySem.W.alike]
  · obtain ⟨i, _, rfl⟩ := List.mem_map.mp hd
    rfl
  · obtain ⟨i, _, rfl⟩ := List.mem_map.mp hd
    show 0 < 40
    omega
theorem layOk_ints (ns : List Int) : layOk (ns.map .int) = true := List.all_eq_true.mpr fun d hd => (sh_ints (k := 0) ns d hd).c
theorem dSort_lI {ns : List Int} (h : ns.length ≤ 16777216) : dSort [.list (ns.map .int)] = some (.list ((srtI ns).map .int), true) := by
  show (if _ then _ else _) = _
  rw [if_pos ⟨sortOk_ints (by rw [sl_ok]; exact h), layOk_ints ns⟩, srtD_ints]
theorem intsD_map (ns : List Int) : intsD (ns.map .int) = some ns := by
  induction ns with
  | nil => rfl
  | cons n ns ih =>
    show (intsD (ns.map .int)).map _ = _
    rw [ih]
    rfl
theorem dSortSet_lI {ns : List Int} (h : ns.length ≤ 1000) (h2 : (setI ns).length < 64) : dSortSet [.list (ns.map .int)] = some (.list ((setI ns).map .int), true) := by
  show ((intsD (ns.map .int)).bind _) = _
  rw [intsD_map]
  exact if_pos ⟨h, h2⟩
theorem insU_len (k : Int) : ∀ ns : List Int, (insU k ns).length ≤ ns.length + 1
  | [] => Nat.le_refl _
  | x :: xs => by
    unfold insU
    split
    · simp
    · split
      · simp
      · have := insU_len k xs
        simp only [List.length_cons]
        omega
theorem setI_len : ∀ ns : List Int, (setI ns).length ≤ ns.length
  | [] => Nat.le_refl _
  | n :: ns => by
    have h1 := insU_len n (setI ns)
    have h2 := setI_len ns
    show (insU n (setI ns)).length ≤ _
    rw [List.length_cons]
    omega
@[simp] theorem dRev_l (ds : List D) : dRev (.list ds) = some (.list ds.reverse, true) := id rfl
@[simp] theorem mExtG_ll (ds es : List D) : mExtG (.list ds) [.list es] = if ds.length + es.length ≤ sizeLine then some (.none, false, .list (ds ++ es)) else none := id rfl
theorem itR_at {a : Av} {g : List D → Option (List D)} {en en' : En} {hs : List Hd} {ds rs : List D} (h1 : a en = some (hs, en')) (h2 : lates en' hs = some ds) (h3 : g ds = some rs) : itR a g en = some (rs, en') := by
  unfold itR
  rw [h1, Option.bind_some]
  show ((lates en' hs).bind _) = _
  rw [h2, Option.bind_some, h3]
  rfl
/-! ### two for -/
theorem lcO_typ {α : Type} {vs vs1 : List Nat} {s s1 : Gv} {t t1 : Tv} {it1 : Lv} {f : Vv} {w : En} (enc : α → D) (g : α → List D) : ∀ as : List α, (∀ a ∈ as, ∃ e e1 e2, s (enc a) (wipeE w vs) = some e ∧ t e = some (true, e) ∧ it1 e = some e1 ∧ lcL vs1 s1 t1 f e1.1 (wipeE e1.2 vs1) = some (g a, e2) ∧ wipeE e2 vs = w) →
    lcO vs vs1 s t it1 s1 t1 f (as.map enc) w = some ((as.map g).flatten, w)
  | [], _ => rfl
  | a :: as, h => by
    obtain ⟨e, e1, e2, h1, h2, h3, h4, h5⟩ := h a (List.mem_cons_self ..)
    have ih := lcO_typ enc g as fun b hb => h b (List.mem_cons_of_mem _ hb)
    rw [List.map_cons]
    show ((s (enc a) (wipeE w vs)).bind _) = _
    rw [h1]
    show ((t e).bind _) = _
    rw [h2]
    show ((it1 e).bind _) = _
    rw [h3]
    show ((lcL vs1 s1 t1 f e1.1 (wipeE e1.2 vs1)).bind _) = _
    rw [h4]
    show ((lcO vs vs1 s t it1 s1 t1 f (as.map enc) (wipeE e2 vs)).map _) = _
    rw [h5, ih]
    rfl
theorem flc2_eq {vs vs1 : List Nat} {it it1 : Lv} {s s1 : Gv} {t t1 : Tv} {f : Vv} {en en1 en2 : En} {ds rs : List D} (h1 : it en = some (ds, en1)) (h2 : lcO vs vs1 s t it1 s1 t1 f ds (wipeE en1 vs) = some (rs, en2)) (hl : rs.length ≤ sizeLine) : fLc2 vs vs1 it s t it1 s1 t1 f en = some (.list rs, true, backE en1 en2 vs) := by
  unfold fLc2
  rw [h1]
  show ((lcO vs vs1 s t it1 s1 t1 f ds (wipeE en1 vs)).bind _) = _
  rw [h2]
  exact if_pos hl
end Fx
namespace Hd
open PySem PySem.Spec L2 Fx
def eW (dr : List Int) (n : Nat) : D := .dict [(.str "draws", .list (dr.map .int)), (.str "at", .int n)]
theorem st1 : ((Str.ofString "draws" : Str) = Str.ofString "at") = False := by
  have : ¬ ((Str.ofString "draws" : Str) = Str.ofString "at") := by decide +kernel
  simp [this]
theorem st2 : ((Str.ofString "at" : Str) = Str.ofString "draws") = False := by
  have : ¬ ((Str.ofString "at" : Str) = Str.ofString "draws") := by decide +kernel
  simp [this]
theorem next_ok (dr : List Int) (n : Nat) (m : Int) (hm : 0 < m) : F__law_next (eW dr n) [.int m] = some (.int (if h : n < dr.length then dr[n] % m else 0), false, eW dr (n + 1)) := by
  by_cases h : n < dr.length
  · have h1 : ¬ ((dr.length : Int) < (n : Int) + 1) := by omega
    simp [F__law_next, b__law_next, e_sSeq, eW, st1, st2, kD, hm, h, h1, Fx.dictGet, Fx.dictPut, atI, ixN]
  · have h1 : ((dr.length : Int) < (n : Int) + 1) := by omega
    simp [F__law_next, b__law_next, e_sSeq, eW, st1, st2, kD, hm, h, h1, Fx.dictGet, Fx.dictPut, atI, ixN]
def Ok997 (dr : List Int) : Prop := ∀ x ∈ dr, 0 ≤ x ∧ x < 997
theorem Ok997.snoc {dr : List Int} (h : Ok997 dr) (i : Int) : Ok997 (dr ++ [i % 997]) := fun x hx => by
  rcases List.mem_append.mp hx with hx | hx
  · exact h x hx
  · rw [List.mem_singleton.mp hx]
    omega
def IDr (ns : List Int) (many : Nat) (left : Nat) (en : En) : Prop := ∃ (dr : List Int) (mixed : Int) (x4 x5 x6 x7 : Option (D × Bool)), en = [some (.list (ns.map .int), .sh), some (.int many, .sh), some (.list (dr.map .int), .own), some (.int mixed, .sh), jk x4, jk x5, jk x6, jk x7] ∧ Ok997 dr ∧ dr.length + left ≤ 20000 ∧ 0 ≤ mixed ∧ mixed < 65537
theorem rng_nil (n : Nat) : rngD 0 1 n = (List.range n).map fun (i : Nat) => .int (i : Int) := by
  unfold rngD
  exact List.map_congr_left fun i _ => by simp
theorem rng_mem {n : Nat} {d : D} (h : d ∈ rngD 0 1 n) : ∃ k : Nat, d = .int k ∧ k < n := by
  rw [rng_nil] at h
  obtain ⟨i, h1, h2⟩ := List.mem_map.mp h
  exact ⟨i, h2.symm, List.mem_range.mp h1⟩
theorem rng_len (n : Nat) : (rngD 0 1 n).length = n := by rw [rng_nil]; simp
theorem atI_map {ns : List Int} {k : Nat} (h : k < ns.length) : atI (ns.map PyData.int) (k : Int) = some (.int ns[k]) := by
  simp [atI, ixN, h]
theorem app_int (dr : List Int) (i : Int) : dr.map PyData.int ++ [.int i] = (dr ++ [i]).map PyData.int := by simp
def IIn (ns : List Int) (many L : Nat) (mixed : Int) (x4 x5 : Option (D × Bool)) (en : En) : Prop := ∃ (dr : List Int) (rest : Int) (x7 : Option (D × Bool)), en = [some (.list (ns.map .int), .sh), some (.int many, .sh), some (.list (dr.map .int), .own), some (.int mixed, .sh), jk x4, jk x5, some (.int rest, .sh), jk x7] ∧ Ok997 dr ∧ dr.length + L ≤ 20000
theorem draws_in (ns : List Int) (many : Nat) (L : Nat) (mixed : Int) (x4 x5 : Option (D × Bool)) (en : En) (h : IIn ns many (L + 60) mixed x4 x5 en) :
    Wp (forL (gN 7) (sIf (tB1 (f2 (fSlot 6) (svO (fC (.int 0))) (isI iGt))) (sSeq (sExpr (fMut 2 isLst (lCons (toV (f2 (toO (fN (aCons (fSlot 6) (aNil)) dInt)) (svO (fC (.int 997))) (isI iMod))) (lNil)) mAppend)) (sSet 6 (f2 (fSlot 6) (svO (fC (.int 997))) (isI iDiv)))) (sNx)) (rngD 0 1 60) en) fun y => y.1 = .nx ∧ IIn ns many L mixed x4 x5 y.2 := by
  refine for_inv (fun ds en => IIn ns many (L + ds.length) mixed x4 x5 en) ?_ ?_ _ _ (by rw [rng_len]; exact h)
  · rintro d r en ⟨dr', rest', x7, rfl, q1, q2⟩
    rw [List.length_cons] at q2
    have hz : dr'.length < 16777216 := by omega
    by_cases hr : 0 < rest'
    · simp [hr, hz]
      refine later_i ?_
      simp
      exact ⟨dr' ++ [rest' % 997], _, some (d, false), by rw [app_int]; rfl, q1.snoc _, by simp; omega⟩
    · simp [hr]
      exact ⟨dr', _, some (d, false), rfl, q1, by omega⟩
  · intro en h
    refine ⟨rfl, ?_⟩
    rw [List.length_nil, Nat.add_zero] at h
    exact h
theorem draws_ok (ns : List Int) (hn : ns.length ≤ 63) (many : Nat) (hm : many ≤ 10000) : Wp (F__law_draws [.list (ns.map .int), .int many]) fun y => ∃ dr : List Int, Ok997 dr ∧ y = (.list (dr.map .int), true) := by
  show Wp (mk0 8 b__law_draws _) _
  rw [mk0_e, wp_bind]
  show Wp (b__law_draws [some (.list (ns.map .int), .sh), some (.int many, .sh), none, none, none, none, none, none]) _
  unfold b__law_draws
  have e1 := range1_nat (n := ns.length) (by omega)
  have e2 := range1_nat (n := many) (by omega)
  simp
  refine later_i ?_
  simp
  refine later_i ?_
  simp [e1]
  refine wp_mono (for_inv (fun ds en => IDr ns many (many + 62 * ds.length) en ∧ ∀ d ∈ ds, ∃ k : Nat, d = .int k ∧ k < ns.length) (Q := fun y => y.1 = .nx ∧ IDr ns many many y.2) ?_ ?_ _ _ ?_) ?_
  · rintro d r en ⟨⟨dr, mixed, x4, x5, x6, x7, rfl, h1, h2, h3, h4⟩, hd⟩
    obtain ⟨k, rfl, hk⟩ := hd d (List.mem_cons_self ..)
    rw [List.length_cons] at h2
    have hb : mixed.natAbs < 18446744073709551616 := by omega
    simp [atI_map hk]
    refine later_i ?_
    generalize (if ns[k] < 0 then -ns[k] else ns[k]) = cell
    simp [hb]
    have m1 : (0:Int) ≤ (mixed * 48271 + cell % 1000003 + k) % 65537 ∧ (mixed * 48271 + cell % 1000003 + k) % 65537 < 65537 := by omega
    generalize (mixed * 48271 + cell % 1000003 + (k : Int)) % 65537 = mixed' at m1 ⊢
    refine later_i ?_
    simp
    refine later_i ?_
    have hb' : mixed'.natAbs < 18446744073709551616 := by omega
    have hz : dr.length < 16777216 := by omega
    have hz' : dr.length + 1 < 16777216 := by omega
    simp
    by_cases hc : 1000000000000000000 ≤ cell
    · simp [hc]
      refine later_i ?_
      simp [inLine_le]
      refine wp_mono (draws_in ns many (many + 62 * r.length) mixed' (some (.int k, false)) (some (.int cell, false)) _ ⟨dr, cell, x7, rfl, h1, by omega⟩) ?_
      rintro ⟨o, en⟩ ⟨e, dr', rest', x7', e2, q1, q2⟩
      dsimp only at e e2
      subst e
      subst e2
      exact ⟨⟨dr', mixed', _, _, some (.int rest', false), _, rfl, q1, q2, m1.1, m1.2⟩, fun d hd' => hd d (List.mem_cons_of_mem _ hd')⟩
    · simp [hc, hz]
      refine later_i ?_
      simp [hb', hz']
      refine later_i ?_
      simp [inLine_le]
      refine wp_mono (draws_in ns many (many + 62 * r.length) mixed' (some (.int k, false)) (some (.int cell, false)) _ ⟨dr ++ [cell % 997] ++ [(mixed' * 69621 + 5) % 65521 % 997], 0, x7, by simp [jk_sh], (h1.snoc _).snoc _, by simp; omega⟩) ?_
      rintro ⟨o, en⟩ ⟨e, dr', rest', x7', e2, q1, q2⟩
      dsimp only at e e2
      subst e
      subst e2
      exact ⟨⟨dr', mixed', _, _, some (.int rest', false), _, rfl, q1, q2, m1.1, m1.2⟩, fun d hd' => hd d (List.mem_cons_of_mem _ hd')⟩
  · rintro en ⟨h, _⟩
    exact ⟨rfl, h⟩
  · exact ⟨⟨[], 7, none, none, none, none, rfl, fun x hx => (by cases hx), by rw [rng_len]; simp; omega, by omega, by omega⟩, fun d hd => rng_mem hd⟩
  · rintro ⟨o, en⟩ ⟨e, dr, mixed, x4, x5, x6, x7, e2, h1, h2, h3, h4⟩
    dsimp only at e e2
    subst e
    subst e2
    refine later_i ?_
    simp [e2]
    refine wp_mono (for_inv (fun ds en => IDr ns many ds.length en ∧ ∀ d ∈ ds, ∃ k : Nat, d = .int k ∧ k < many) (Q := fun y => y.1 = .nx ∧ IDr ns many 0 y.2) ?_ ?_ _ _ ?_) ?_
    · rintro d r en ⟨⟨dr, mixed, x4, x5, x6, x7, rfl, h1, h2, h3, h4⟩, hd⟩
      obtain ⟨k, rfl, hk⟩ := hd d (List.mem_cons_self ..)
      rw [List.length_cons] at h2
      have hb : mixed.natAbs < 18446744073709551616 := by omega
      have hz : dr.length < 16777216 := by omega
      simp [hb]
      refine later_i ?_
      simp [hz]
      exact ⟨⟨dr ++ [(mixed * 16807 + k + 1) % 65537 % 997], _, some (.int k, false), x5, x6, x7, by rw [app_int]; rfl, h1.snoc _, by simp; omega, by omega, by omega⟩, fun d hd' => hd d (List.mem_cons_of_mem _ hd')⟩
    · rintro en ⟨h, _⟩
      exact ⟨rfl, h⟩
    · exact ⟨⟨dr, mixed, x4, x5, x6, x7, rfl, h1, by rw [rng_len]; exact h2, h3, h4⟩, fun d hd => rng_mem hd⟩
    · rintro ⟨o, en⟩ ⟨e, dr, mixed, x4, x5, x6, x7, e2, h1, h2, h3, h4⟩
      dsimp only at e e2
      subst e
      subst e2
      refine later_i ?_
      simp [dSl, cutD]
      exact ⟨(dr.drop (HT.sIx dr.length 0 none)).take (HT.sIx dr.length dr.length (some (many : Int)) - HT.sIx dr.length 0 none), fun x hx => h1 x (List.mem_of_mem_drop (List.mem_of_mem_take hx)), by simp [List.map_take, List.map_drop]⟩
end Hd
namespace Hd
open PySem PySem.Spec L2 Fx
structure Rl where
  place : Int
  far : Int
  kept : List (Str × Int)
structure Cd where
  name : Str
  beg : Int
  size : Int
  rules : List Rl
def eK (p : Str × Int) : D := .tuple [.str p.1, .int p.2]
def eF (r : Rl) : D := .tuple [.int r.far, .tuple (r.kept.map eK)]
def eR (r : Rl) : D := .tuple [.int r.place, eF r]
def eC (c : Cd) : D := .tuple [.str c.name, .int c.beg, .int c.size, .tuple (c.rules.map eR)]
/-- codes as the law builds them -/
structure GR (r : Rl) : Prop where
  far0 : 0 ≤ r.far
  place0 : 0 ≤ r.place
  len : r.kept.length ≤ 2
  k : ∀ p ∈ r.kept, (p.1 = Str.ofString "a" ∨ p.1 = Str.ofString "b") ∧ 1 ≤ p.2 ∧ p.2 ≤ r.far
structure GC (c : Cd) : Prop where
  nm : c.name = Str.ofString "f" ∨ c.name = Str.ofString "g" ∨ c.name = Str.ofString "h"
  b1 : 1 ≤ c.beg
  b2 : c.beg ≤ 40
  s1 : 2 ≤ c.size
  s2 : c.size ≤ 5
  len : c.rules.length ≤ 1000
  r : ∀ r ∈ c.rules, GR r
theorem ok_f_ : PyData.strOk (Str.ofString "f") = true := by decide +kernel
theorem ok_g_ : PyData.strOk (Str.ofString "g") = true := by decide +kernel
theorem ok_h_ : PyData.strOk (Str.ofString "h") = true := by decide +kernel
theorem ok_a_ : PyData.strOk (Str.ofString "a") = true := by decide +kernel
theorem ok_b_ : PyData.strOk (Str.ofString "b") = true := by decide +kernel
theorem sh_two {k : Nat} {a b : D} (h1 : Sh k a) (h2 : Sh k b) : Sh (k + 1) (.tuple [a, b]) := Sh.tup fun d hd => by
  rcases List.mem_cons.mp hd with rfl | hd
  · exact h1
  · rw [List.mem_singleton.mp hd]; exact h2
theorem sh_K {p : Str × Int} (h : p.1 = Str.ofString "a" ∨ p.1 = Str.ofString "b") : Sh 1 (eK p) := by
  refine sh_two (Sh.str _ ?_) (Sh.int _)
  rcases h with h | h
  · rw [h]; exact ok_a_
  · rw [h]; exact ok_b_
theorem sh_F {r : Rl} (h : GR r) : Sh 3 (eF r) := sh_two (Sh.mono (Sh.int _) (by omega)) (Sh.tup fun d hd => by
  obtain ⟨p, hp, rfl⟩ := List.mem_map.mp hd
  exact sh_K (h.k p hp).1)
theorem sh_R {r : Rl} (h : GR r) : Sh 4 (eR r) := sh_two (Sh.mono (Sh.int _) (by omega)) (sh_F h)
theorem sh_C {c : Cd} (h : GC c) : Sh 6 (eC c) := Sh.tup fun d hd => by
  simp only [List.mem_cons, List.not_mem_nil, or_false] at hd
  rcases hd with rfl | rfl | rfl | rfl
  · refine Sh.mono (Sh.str _ ?_) (Nat.zero_le _)
    rcases h.nm with e | e | e <;> rw [e]
    · exact ok_f_
    · exact ok_g_
    · exact ok_h_
  · exact Sh.mono (Sh.int _) (by omega)
  · exact Sh.mono (Sh.int _) (by omega)
  · exact Sh.tup fun d hd => by
      obtain ⟨r, hr, rfl⟩ := List.mem_map.mp hd
      exact sh_R (h.r r hr)
def inC (a : Int) (c : Cd) : Bool := decide (c.beg ≤ a) && decide (a < c.beg + c.size)
def codeAt (cs : List Cd) (a : Int) : Option Cd := (cs.filter (inC a)).head?
def oC : Option Cd → D
  | some c => eC c
  | none => .none
theorem at_nat {ds : List D} {n : Nat} {d : D} (h : ds[n]? = some d) : atI ds (n : Int) = some d := by
  have hn := (List.getElem?_eq_some_iff.mp h).1
  unfold atI ixN
  rw [if_pos (by omega), if_pos (by omega), Int.toNat_natCast]
  exact h
@[simp] theorem at0 {d : D} {ds : List D} : atI (d :: ds) 0 = some d := at_nat (n := 0) rfl
theorem ne_nil {ds : List D} (h : ∀ d ∈ ds, Sh 6 d) : dNe (.list ds) (.list []) = some (.bool (!ds.isEmpty), false) := by
  rw [dNe_of (Sh.lst h) (Sh.lst (k := 0) fun d hd => by cases hd) (by omega) (by omega), eqv_nil]
@[simp] theorem tupC (c : Cd) : eC c = .tuple [.str c.name, .int c.beg, .int c.size, .tuple (c.rules.map eR)] := id rfl
@[simp] theorem tupR (r : Rl) : eR r = .tuple [.int r.place, eF r] := id rfl
@[simp] theorem at1 {a b : D} {ds : List D} : atI (a :: b :: ds) 1 = some b := at_nat (n := 1) rfl
@[simp] theorem at2 {a b c : D} {ds : List D} : atI (a :: b :: c :: ds) 2 = some c := at_nat (n := 2) rfl
@[simp] theorem at3 {a b c d : D} {ds : List D} : atI (a :: b :: c :: d :: ds) 3 = some d := at_nat (n := 3) rfl
theorem code_for_eq (cs : List Cd) (a : Int) (hl : cs.length ≤ 1000) (h : ∀ c ∈ cs, GC c) : F_code_for [.tuple (cs.map eC), .int a] = some (oC (codeAt cs a), false) := by
  unfold F_code_for b_code_for
  rw [mk0_e]
  show Option.bind (sSeq _ _ [some (.tuple (cs.map eC), .sh), some (.int a, .sh), none, none]) _ = _
  rw [e_sSeq, e_sSet, flc_eq (ds := cs.map eC) (rs := (cs.filter (inC a)).map eC) (en1 := [some (.tuple (cs.map eC), .sh), some (.int a, .sh), none, none]) (en2 := [some (.tuple (cs.map eC), .sh), some (.int a, .sh), none, none]) ?_ ?_ ?_]
  · have hs : ∀ d ∈ (cs.filter (inC a)).map eC, Sh 6 d := fun d hd => by
      obtain ⟨c, hc, rfl⟩ := List.mem_map.mp hd
      exact sh_C (h c (List.mem_filter.mp hc).1)
    have hn := ne_nil hs
    unfold codeAt
    cases hf : cs.filter (inC a) with
    | nil =>
      rw [hf, List.map_nil] at hn
      simp [backE, hn, oC, -tupC]
    | cons c r =>
      rw [hf, List.map_cons] at hn
      simp [backE, hn, oC, -tupC]
  · rw [e_itV]
    simp
  · refine lc_typ eC (fun c => [some (.tuple (cs.map eC), .sh), some (.int a, .sh), none, some (eC c, .sh)]) (inC a) eC rfl cs fun c hc => ⟨?_, ?_, ?_, rfl⟩
    · simp [wipeE]
    · unfold inC
      by_cases h1 : c.beg ≤ a
      · simp [fChain, h1]
      · simp [fChain, h1]
    · intro _
      simp
  · rw [List.length_map, sl_ok]
    exact Nat.le_trans (List.length_filter_le _ _) (by omega)
theorem any_rg (i j a : Int) : (rgD i j).any (fun z => PyData.eqv z (.int a)) = (decide (i ≤ a) && decide (a < j)) := by
  rw [Bool.eq_iff_iff]
  simp only [List.any_eq_true, rgD, List.mem_map, List.mem_range, Bool.and_eq_true, decide_eq_true_eq]
  constructor
  · rintro ⟨_, ⟨n, hn, rfl⟩, e⟩
    simp [PyData.eqv] at e
    omega
  · rintro ⟨h1, h2⟩
    exact ⟨_, ⟨(a - i).toNat, by omega, rfl⟩, by simp [PyData.eqv]; omega⟩
theorem in_rg (i j a : Int) : dIn (.int a) (.list (rgD i j)) = some (.bool (decide (i ≤ a) && decide (a < j)), false) := by
  have h1 : SeqAt.shaped (.int a) = true := (Sh.int a).shaped (by omega)
  have h2 : SeqAt.shaped (.list (rgD i j)) = true := (Sh.lst (k := 0) fun d hd => by
    obtain ⟨n, _, rfl⟩ := List.mem_map.mp hd
    exact Sh.int _).shaped (by omega)
  show Option.map _ (if (SeqAt.shaped (.int a) && SeqAt.shaped (.list (rgD i j))) = true then some ((rgD i j).any fun z => PyData.eqv z (.int a)) else none) = _
  rw [h1, h2, any_rg]
  rfl
theorem code_at_eq (cs : List Cd) (a : Int) (hl : cs.length ≤ 1000) (h : ∀ c ∈ cs, GC c) : F__law_code_at [.tuple (cs.map eC), .int a] = some (oC (codeAt cs a), false) := by
  unfold F__law_code_at b__law_code_at
  rw [mk0_e]
  show Option.bind (sSeq _ _ [some (.tuple (cs.map eC), .sh), some (.int a, .sh), none, none]) _ = _
  rw [e_sSeq, e_sSet, flc_eq (ds := cs.map eC) (rs := (cs.filter (inC a)).map eC) (en1 := [some (.tuple (cs.map eC), .sh), some (.int a, .sh), none, none]) (en2 := [some (.tuple (cs.map eC), .sh), some (.int a, .sh), none, none]) ?_ ?_ ?_]
  · have hs : ∀ d ∈ (cs.filter (inC a)).map eC, Sh 6 d := fun d hd => by
      obtain ⟨c, hc, rfl⟩ := List.mem_map.mp hd
      exact sh_C (h c (List.mem_filter.mp hc).1)
    have hn := ne_nil hs
    unfold codeAt
    cases hf : cs.filter (inC a) with
    | nil =>
      rw [hf, List.map_nil] at hn
      simp [backE, hn, oC, -tupC]
    | cons c r =>
      rw [hf, List.map_cons] at hn
      simp [backE, hn, oC, -tupC]
  · rw [e_itV]
    simp
  · refine lc_typ eC (fun c => [some (.tuple (cs.map eC), .sh), some (.int a, .sh), none, some (eC c, .sh)]) (inC a) eC rfl cs fun c hc => ⟨?_, ?_, ?_, rfl⟩
    · simp [wipeE]
    · have g := h c hc
      have hr : rgOk c.beg (c.beg + c.size) = true := rgOk_le (by have := g.b1; omega) (by have := g.b2; omega) (by have := g.b1; have := g.s1; omega) (by have := g.b2; have := g.s2; omega)
      simp [hr, in_rg, inC, -rgOk_n]
    · intro _
      simp
  · rw [List.length_map, sl_ok]
    exact Nat.le_trans (List.length_filter_le _ _) (by omega)
/-! ### the rule at a place -/
def ruleAt (rs : List Rl) (i : Int) : Option Rl := (rs.filter fun r => decide (r.place ≤ i)).getLast?
def oF : Option Rl → D
  | some r => eF r
  | none => .none
theorem at_last {ds : List D} {d : D} (h : ds.getLast? = some d) : atI ds (-1) = some d := by
  rw [List.getLast?_eq_getElem?] at h
  have hn := (List.getElem?_eq_some_iff.mp h).1
  unfold atI ixN
  rw [if_neg (by omega), if_pos (by omega)]
  show ds[((-1 : Int) + (ds.length : Int)).toNat]? = some d
  rw [show ((-1 : Int) + (ds.length : Int)).toNat = ds.length - 1 by omega]
  exact h
theorem rule_ret (l : List Rl) (q : Option Rl) (hq : l.getLast? = q) (hg : ∀ r ∈ l, GR r) (x0 x1 : D × Fl) : Wp (sRet (fIf (tB1 (f2 (fSlot 2) (toO (fLst (lNil))) (dNe))) (f2 (fSlot 2) (toO (f1 (svO (fC (.int 1))) dNeg)) dIxA) (ofV (fC .none))) [some x0, some x1, some (.list (l.map eF), .own), none, none]) fun y => y.1 = .rt (oF q) false := by
  subst hq
  have hs : ∀ d ∈ l.map eF, Sh 6 d := fun d hd => by
    obtain ⟨r, hr, rfl⟩ := List.mem_map.mp hd
    exact (sh_F (hg r hr)).mono (by omega)
  have hn := ne_nil hs
  cases l with
  | nil =>
    rw [List.map_nil] at hn
    simp [hn, oF]
  | cons c r =>
    obtain ⟨z, hz⟩ : ∃ z, (c :: r).getLast? = some z := ⟨_, List.getLast?_eq_getLast (by simp)⟩
    have hl : ((c :: r).map eF).getLast? = some (eF z) := by rw [List.getLast?_map, hz]; rfl
    have h1 := at_last hl
    rw [List.map_cons] at hn h1
    rw [hz]
    simp [hn, h1, oF]
theorem rule_in_eq (rs : List Rl) (i : Int) (hl : rs.length ≤ 1000) (h : ∀ r ∈ rs, GR r) : F_rule_in [.tuple (rs.map eR), .int i] = some (oF (ruleAt rs i), false) := by
  unfold F_rule_in b_rule_in
  rw [mk0_e]
  show Option.bind (sSeq _ _ [some (.tuple (rs.map eR), .sh), some (.int i, .sh), none, none, none]) _ = _
  rw [e_sSeq, e_sSet, flc_eq (ds := rs.map eR) (rs := (rs.filter fun r => decide (r.place ≤ i)).map eF) (en1 := [some (.tuple (rs.map eR), .sh), some (.int i, .sh), none, none, none]) (en2 := [some (.tuple (rs.map eR), .sh), some (.int i, .sh), none, none, none]) ?_ ?_ ?_]
  · obtain ⟨y, e1, e2⟩ := rule_ret (rs.filter fun r => decide (r.place ≤ i)) (ruleAt rs i) rfl (fun r hr => h r (List.mem_filter.mp hr).1) (.tuple (rs.map eR), .sh) (.int i, .sh)
    obtain ⟨o, en⟩ := y
    dsimp only at e2
    subst e2
    simp [backE, -e_sRet]
    try simp [-e_sRet] at e1
    rw [e1]
    rfl
  · rw [e_itV]
    simp
  · refine lc_typ eR (fun r => [some (.tuple (rs.map eR), .sh), some (.int i, .sh), none, some (.int r.place, .sh), some (eF r, .sh)]) (fun r => decide (r.place ≤ i)) eF rfl rs fun c hc => ⟨?_, ?_, ?_, rfl⟩
    · simp [wipeE]
    · simp
    · intro _
      simp
  · rw [List.length_map, sl_ok]
    exact Nat.le_trans (List.length_filter_le _ _) (by omega)
theorem rule_at_eq (c : Cd) (i : Int) (h : GC c) : F__law_rule_at [eC c, .int i] = some (oF (ruleAt c.rules i), false) := by
  unfold F__law_rule_at b__law_rule_at
  rw [mk0_e]
  show Option.bind (sSeq _ _ [some (eC c, .sh), some (.int i, .sh), none, none, none]) _ = _
  rw [e_sSeq, e_sSet, flc_eq (ds := c.rules.map eR) (rs := (c.rules.filter fun r => decide (r.place ≤ i)).map eF) (en1 := [some (eC c, .sh), some (.int i, .sh), none, none, none]) (en2 := [some (eC c, .sh), some (.int i, .sh), none, none, none]) ?_ ?_ ?_]
  · obtain ⟨y, e1, e2⟩ := rule_ret (c.rules.filter fun r => decide (r.place ≤ i)) (ruleAt c.rules i) rfl (fun r hr => h.r r (List.mem_filter.mp hr).1) (eC c, .sh) (.int i, .sh)
    obtain ⟨o, en⟩ := y
    dsimp only at e2
    subst e2
    simp [backE, -e_sRet]
    try simp [-e_sRet] at e1
    rw [e1]
    rfl
  · rw [e_itV]
    simp
  · refine lc_typ eR (fun r => [some (eC c, .sh), some (.int i, .sh), none, some (.int r.place, .sh), some (eF r, .sh)]) (fun r => decide (r.place ≤ i)) eF rfl c.rules fun c hc => ⟨?_, ?_, ?_, rfl⟩
    · simp [wipeE]
    · simp
    · intro _
      simp
  · rw [List.length_map, sl_ok]
    exact Nat.le_trans (List.length_filter_le _ _) (by have := h.len; omega)
theorem name_for_eq (cs : List Cd) (a : Int) (hl : cs.length ≤ 1000) (h : ∀ c ∈ cs, GC c) : F_name_for [.tuple (cs.map eC), .int a] = some (match codeAt cs a with
    | some c => .tuple [.str c.name, .int (a - c.beg)]
    | none => .none, false) := by
  unfold F_name_for b_name_for
  rw [mk0_e]
  show Option.bind (sSeq _ _ [some (.tuple (cs.map eC), .sh), some (.int a, .sh), none]) _ = _
  rw [e_sSeq]
  have e := code_for_eq cs a hl h
  cases hc : codeAt cs a with
  | none =>
    rw [hc] at e
    simp [e, oC]
  | some c =>
    rw [hc] at e
    simp [e, oC]
end Hd
namespace Hd
open PySem PySem.Spec L2 Fx
/-- a table of registers, as it was filled -/
inductive Tb where
  | t0 | ta (x : Int) | tb (y : Int) | tab (x y : Int) | tba (x y : Int)
abbrev nA : Str := Str.ofString "a"
abbrev nB : Str := Str.ofString "b"
def eT : Tb → List (D × D)
  | .t0 => []
  | .ta x => [(.str nA, .int x)]
  | .tb y => [(.str nB, .int y)]
  | .tab x y => [(.str nA, .int x), (.str nB, .int y)]
  | .tba x y => [(.str nB, .int y), (.str nA, .int x)]
def putA : Tb → Int → Tb
  | .t0, v => .ta v
  | .ta _, v => .ta v
  | .tb y, v => .tba v y
  | .tab _ y, v => .tab v y
  | .tba _ y, v => .tba v y
def putB : Tb → Int → Tb
  | .t0, v => .tb v
  | .ta x, v => .tab x v
  | .tb _, v => .tb v
  | .tab x _, v => .tab x v
  | .tba x _, v => .tba x v
theorem ne_ab : ¬ (nA = nB) := by decide +kernel
theorem ne_ba : ¬ (nB = nA) := by decide +kernel
def putT (t : Tb) (n : Str) (v : Int) : Tb := if n = nA then putA t v else putB t v
theorem put_eq (t : Tb) (n : Str) (v : Int) (hn : n = nA ∨ n = nB) : Fx.dictPut (eT t) (.inr n) (.int v) = eT (putT t n v) := by
  rcases hn with rfl | rfl
  · rw [putT, if_pos rfl]
    cases t <;> simp [Fx.dictPut, eT, putA, kD, ne_ab, ne_ba]
  · rw [putT, if_neg ne_ba]
    cases t <;> simp [Fx.dictPut, eT, putB, kD, ne_ab, ne_ba]
theorem len_T (t : Tb) : (eT t).length < sizeLine := by rw [sl_ok]; cases t <;> simp [eT]
/-- registers: by name -/
structure Rg where
  a : Option Int
  b : Option Int
def rgL (r : Rg) : List (Str × Int) := (match r.a with
  | some x => [(nA, x)]
  | none => []) ++ (match r.b with
  | some y => [(nB, y)]
  | none => [])
def eG (r : Rg) : D := .tuple ((rgL r).map eK)
def ofRg : Rg → Tb
  | ⟨none, none⟩ => .t0
  | ⟨some x, none⟩ => .ta x
  | ⟨none, some y⟩ => .tb y
  | ⟨some x, some y⟩ => .tab x y
def toRg : Tb → Rg
  | .t0 => ⟨none, none⟩
  | .ta x => ⟨some x, none⟩
  | .tb y => ⟨none, some y⟩
  | .tab x y => ⟨some x, some y⟩
  | .tba x y => ⟨some x, some y⟩
theorem dict_rg (r : Rg) : dDict [eG r] = some (.dict (eT (ofRg r)), true) := by
  obtain ⟨a, b⟩ := r
  cases a <;> cases b <;> simp [dDict, eG, rgL, eK, pairsOf, mergeD, Fx.dictPut, ofRg, eT, kD, ne_ab, ne_ba]
theorem sh_G (r : Rg) : Sh 2 (eG r) := Sh.tup fun d hd => by
  obtain ⟨p, hp, rfl⟩ := List.mem_map.mp hd
  refine sh_K ?_
  obtain ⟨a, b⟩ := r
  cases a <;> cases b <;> simp [rgL] at hp
  · exact .inr (by rw [hp])
  · exact .inl (by rw [hp])
  · rcases hp with rfl | rfl
    · exact .inl rfl
    · exact .inr rfl
theorem sort2 {α : Type} (le : α → α → Bool) (a b : α) : [a, b].mergeSort le = if le a b = true then [a, b] else [b, a] := by
  simp [List.mergeSort, List.MergeSort.Internal.splitInTwo, List.merge]
theorem sort1 {α : Type} (le : α → α → Bool) (a : α) : [a].mergeSort le = [a] := by simp [List.mergeSort]
theorem srt2 {a b : D} (h : PySem.W.dataLe false (fun d : D => d) a b = true) : srtD [a, b] = [a, b] := by
  unfold srtD
  rw [sort2, if_pos h]
theorem srt2' {a b : D} (h : PySem.W.dataLe false (fun d : D => d) a b = false) : srtD [a, b] = [b, a] := by
  unfold srtD
  rw [sort2, if_neg (by rw [h]; exact fun z => by cases z)]
theorem srt1 {a : D} : srtD [a] = [a] := sort1 _ _
theorem srt0 : srtD [] = [] := by simp [srtD]
theorem sortI_of {es : List (D × D)} {l : List D} (h1 : sortOk (es.map fun p => .tuple [p.1, p.2]) = true) (h2 : layOk (es.map fun p => .tuple [p.1, p.2]) = true) (h3 : srtD (es.map fun p => .tuple [p.1, p.2]) = l) : dSortI (.dict es) = some (.list l, true) := by
  show (if _ then _ else _) = _
  rw [if_pos ⟨h1, h2⟩, h3]
theorem sort_of {es : List (D × D)} {l : List D} (h1 : sortOk (es.map (·.1)) = true) (h2 : layOk (es.map (·.1)) = true) (h3 : srtD (es.map (·.1)) = l) : dSort [.dict es] = some (.list l, true) := by
  show (if _ then _ else _) = _
  rw [if_pos ⟨h1, h2⟩, h3]
theorem sortI_T (t : Tb) : dSortI (.dict (eT t)) = some (.list ((rgL (toRg t)).map eK), true) := by
  cases t with
  | t0 => exact sortI_of (by kernel_rfl) (by kernel_rfl) srt0
  | ta x => exact sortI_of (by kernel_rfl) (by kernel_rfl) srt1
  | tb x => exact sortI_of (by kernel_rfl) (by kernel_rfl) srt1
  | tab x y => exact sortI_of (by kernel_rfl) (by kernel_rfl) (srt2 (by kernel_rfl))
  | tba x y => exact sortI_of (by kernel_rfl) (by kernel_rfl) (srt2' (by kernel_rfl))
theorem sort_T (t : Tb) : dSort [.dict (eT t)] = some (.list ((rgL (toRg t)).map fun p => .str p.1), true) := by
  cases t with
  | t0 => exact sort_of (by kernel_rfl) (by kernel_rfl) srt0
  | ta x => exact sort_of (by kernel_rfl) (by kernel_rfl) srt1
  | tb x => exact sort_of (by kernel_rfl) (by kernel_rfl) srt1
  | tab x y => exact sort_of (by kernel_rfl) (by kernel_rfl) (srt2 (by kernel_rfl))
  | tba x y => exact sort_of (by kernel_rfl) (by kernel_rfl) (srt2' (by kernel_rfl))
end Hd
namespace Hd
open PySem PySem.Spec L2 Fx
theorem get_T (t : Tb) : ∀ p ∈ rgL (toRg t), Fx.dictGet (eT t) (.inr p.1) = some (.int p.2) := by
  intro p hp
  cases t <;> simp [toRg, rgL] at hp
  · subst hp; simp [Fx.dictGet, eT]
  · subst hp; simp [Fx.dictGet, eT]
  · rcases hp with rfl | rfl <;> simp [Fx.dictGet, eT, ne_ab, ne_ba]
  · rcases hp with rfl | rfl <;> simp [Fx.dictGet, eT, ne_ab, ne_ba]
def stAt (st : List Int) (i : Int) : Int := st.getD i.toNat 0
theorem at_st (st : List Int) (i : Int) (h0 : 0 ≤ i) (h1 : i < st.length) : atI (st.map PyData.int) i = some (.int (stAt st i)) := by
  obtain ⟨n, rfl⟩ : ∃ n : Nat, i = n := ⟨i.toNat, by omega⟩
  have hn : n < st.length := by omega
  refine at_nat ?_
  rw [List.getElem?_map, List.getElem?_eq_getElem hn]
  simp [stAt, hn]
def fillT (st : List Int) (place : Int) (t : Tb) (kept : List (Str × Int)) : Tb := kept.foldl (fun t p => putT t p.1 (stAt st (place + p.2))) t
def eS (st : List Int) : D := .tuple (st.map .int)
theorem eS_e (st : List Int) : eS st = .tuple (st.map .int) := id rfl
def IFill (st : List Int) (place : Int) (x0 x2 x3 x4 x5 x6 : Option (D × Fl)) (T : Tb) (ds : List D) (en : En) : Prop := ∃ (kp : List (Str × Int)) (t' : Tb) (x9 x10 : Option (D × Bool)), ds = kp.map eK ∧ (∀ p ∈ kp, (p.1 = nA ∨ p.1 = nB) ∧ 0 ≤ place + p.2 ∧ place + p.2 < st.length) ∧ fillT st place t' kp = T ∧ en = [x0, some (eS st, .sh), x2, x3, x4, x5, x6, some (.int place, .sh), some (.dict (eT t'), .own), jk x9, jk x10]
theorem fill_loop (st : List Int) (place : Int) (x0 x2 x3 x4 x5 x6 : Option (D × Fl)) (t : Tb) (kept : List (Str × Int)) (x9 x10 : Option (D × Bool)) (hk : ∀ p ∈ kept, (p.1 = nA ∨ p.1 = nB) ∧ 0 ≤ place + p.2 ∧ place + p.2 < st.length) :
    Wp (forL (gT 2 (gsCons (gN 9) (gsCons (gN 10) (gsNil)))) (sAsg (toV (f2 (fSlot 1) (toO (f2 (fSlot 7) (fSlot 10) (dAdd))) dIxA)) (gSubD 8 (fName 9))) (kept.map eK) [x0, some (eS st, .sh), x2, x3, x4, x5, x6, some (.int place, .sh), some (.dict (eT t), .own), jk x9, jk x10])
      fun y => y.1 = .nx ∧ ∃ x9 x10, y.2 = [x0, some (eS st, .sh), x2, x3, x4, x5, x6, some (.int place, .sh), some (.dict (eT (fillT st place t kept)), .own), jk x9, jk x10] := by
  refine for_inv (IFill st place x0 x2 x3 x4 x5 x6 (fillT st place t kept)) ?_ ?_ _ _ ⟨kept, t, x9, x10, rfl, hk, rfl, rfl⟩
  · rintro d r en ⟨kp, t', x9, x10, e1, h, e2, rfl⟩
    cases kp with
    | nil => cases e1
    | cons p kp =>
      rw [List.map_cons] at e1
      cases e1
      obtain ⟨h1, h2, h3⟩ := h p (List.mem_cons_self ..)
      have e := at_st st _ h2 h3
      have hl := len_T t'
      rw [sl_ok] at hl
      have hp := put_eq t' p.1 (stAt st (place + p.2)) h1
      simp [eK, eS_e, e, hl, hp]
      exact ⟨kp, putT t' p.1 (stAt st (place + p.2)), some (.str p.1, false), some (.int p.2, false), rfl, fun q hq => h q (List.mem_cons_of_mem _ hq), e2, rfl⟩
  · rintro en ⟨kp, t', x9, x10, e1, h, e2, rfl⟩
    cases kp with
    | cons p kp => cases e1
    | nil => exact ⟨rfl, x9, x10, by rw [← e2]; rfl⟩
def callerOf (cs : List Cd) (st : List Int) (a top : Int) (rg : Rg) : Option (Int × Int × Rg) := match codeAt cs a with
  | none => none
  | some c => match ruleAt c.rules (a - c.beg) with
    | none => none
    | some r => if top - 1 - r.far < 0 then none else some (stAt st (top - 1 - r.far), top - 1 - r.far, toRg (fillT st (top - 1 - r.far) (ofRg rg) r.kept))
def eO : Option (Int × Int × Rg) → D
  | some (x, p, g) => .tuple [.int x, .int p, eG g]
  | none => .none
theorem code_mem {cs : List Cd} {a : Int} {c : Cd} (h : codeAt cs a = some c) : c ∈ cs := (List.mem_filter.mp (List.mem_of_mem_head? h)).1
theorem rule_mem {rs : List Rl} {a : Int} {r : Rl} (h : ruleAt rs a = some r) : r ∈ rs := (List.mem_filter.mp (List.mem_of_getLast? h)).1
theorem caller_eq (cs : List Cd) (st : List Int) (a top : Int) (rg : Rg) (hl : cs.length ≤ 1000) (h : ∀ c ∈ cs, GC c) (ht : top ≤ st.length) :
    Wp (F_caller_of [.tuple (cs.map eC), eS st, .int a, .int top, eG rg]) fun y => y = (eO (callerOf cs st a top rg), false) := by
  show Wp (mk0 11 b_caller_of _) _
  rw [mk0_e, wp_bind]
  show Wp (b_caller_of [some (.tuple (cs.map eC), .sh), some (eS st, .sh), some (.int a, .sh), some (.int top, .sh), some (eG rg, .sh), none, none, none, none, none, none]) _
  unfold b_caller_of
  have e1 := code_for_eq cs a hl h
  simp [e1]
  refine later_i ?_
  unfold callerOf
  cases hc : codeAt cs a with
  | none =>
    simp [oC]
    refine later_i ?_
    simp [eO]
  | some c =>
    have gc := h c (code_mem hc)
    have e2 := rule_in_eq c.rules (a - c.beg) gc.len gc.r
    simp [oC, e2]
    refine later_i ?_
    cases hr : ruleAt c.rules (a - c.beg) with
    | none => simp [oF, eO]
    | some r =>
      have gr := gc.r r (rule_mem hr)
      by_cases hp : top - 1 - r.far < 0
      · simp [oF, eF, hp, eO]
      · simp [oF, eF, hp]
        refine later_i ?_
        simp
        refine later_i ?_
        simp [dict_rg]
        refine later_i ?_
        simp
        have f0 := gr.far0
        refine wp_mono (fill_loop st (top - 1 - r.far) _ _ _ _ _ _ (ofRg rg) r.kept none none fun p hp' => ⟨(gr.k p hp').1, by have := (gr.k p hp').2; omega, by have := (gr.k p hp').2; omega⟩) ?_
        rintro ⟨o, en⟩ ⟨e, x9, x10, e3⟩
        dsimp only at e e3
        subst e
        subst e3
        refine later_i ?_
        have e4 := at_st st (top - 1 - r.far) (by omega) (by omega)
        simp [eS_e, e4, sortI_T, eO, eG]
theorem lcaller_eq (cs : List Cd) (st : List Int) (a top : Int) (rg : Rg) (hl : cs.length ≤ 1000) (h : ∀ c ∈ cs, GC c) (ht : top ≤ st.length) :
    Wp (F__law_caller [.tuple (cs.map eC), eS st, .int a, .int top, eG rg]) fun y => y = (eO (callerOf cs st a top rg), false) := by
  show Wp (mk0 11 b__law_caller _) _
  rw [mk0_e, wp_bind]
  show Wp (b__law_caller [some (.tuple (cs.map eC), .sh), some (eS st, .sh), some (.int a, .sh), some (.int top, .sh), some (eG rg, .sh), none, none, none, none, none, none]) _
  unfold b__law_caller
  have e1 := code_at_eq cs a hl h
  simp [e1]
  refine later_i ?_
  unfold callerOf
  cases hc : codeAt cs a with
  | none =>
    simp [oC]
    refine later_i ?_
    simp [eO]
  | some c =>
    have gc := h c (code_mem hc)
    have e2 := rule_at_eq c (a - c.beg) gc
    rw [tupC] at e2
    simp [oC, e2]
    refine later_i ?_
    cases hr : ruleAt c.rules (a - c.beg) with
    | none => simp [oF, eO]
    | some r =>
      have gr := gc.r r (rule_mem hr)
      by_cases hp : top - 1 - r.far < 0
      · simp [oF, eF, hp, eO]
      · simp [oF, eF, hp]
        refine later_i ?_
        simp [dict_rg]
        refine later_i ?_
        simp
        have f0 := gr.far0
        refine wp_mono (fill_loop st (top - 1 - r.far) _ _ _ _ _ _ (ofRg rg) r.kept none none fun p hp' => ⟨(gr.k p hp').1, by have := (gr.k p hp').2; omega, by have := (gr.k p hp').2; omega⟩) ?_
        rintro ⟨o, en⟩ ⟨e, x9, x10, e3⟩
        dsimp only at e e3
        subst e
        subst e3
        refine later_i ?_
        have e4 := at_st st (top - 1 - r.far) (by omega) (by omega)
        generalize fillT st (top - 1 - r.far) (ofRg rg) r.kept = T
        simp [eS_e, e4, eO, eG]
        rw [flc_eq (ds := (rgL (toRg T)).map fun p => .str p.1) (rs := (rgL (toRg T)).map eK) (en1 := [some (.tuple (cs.map eC), .sh), some (eS st, .sh), some (.int a, .sh), some (.int top, .sh), some (eG rg, .sh), some (eC c, .sh), some (eF r, .sh), some (.int (top - 1 - r.far), .sh), some (.dict (eT T), .own), jk x9, jk x10]) (en2 := [some (.tuple (cs.map eC), .sh), some (eS st, .sh), some (.int a, .sh), some (.int top, .sh), some (eG rg, .sh), some (eC c, .sh), some (eF r, .sh), some (.int (top - 1 - r.far), .sh), some (.dict (eT T), .own), none, jk x10]) ?_ ?_ ?_]
        · simp [backE]
        · rw [e_itV]
          simp [sort_T, eS_e, eF, eG]
        · have e5 := lc_typ (vs := [9]) (s := gN 9) (t := tTrue) (f := fTup (lCons (fName 9) (lCons (toV (f2 (fSlot 8) (fSlot 9) dIxA)) (lNil)))) (w := [some (.tuple (cs.map eC), .sh), some (eS st, .sh), some (.int a, .sh), some (.int top, .sh), some (eG rg, .sh), some (eC c, .sh), some (eF r, .sh), some (.int (top - 1 - r.far), .sh), some (.dict (eT T), .own), none, jk x10]) (fun p : Str × Int => .str p.1) (fun p => [some (.tuple (cs.map eC), .sh), some (eS st, .sh), some (.int a, .sh), some (.int top, .sh), some (eG rg, .sh), some (eC c, .sh), some (eF r, .sh), some (.int (top - 1 - r.far), .sh), some (.dict (eT T), .own), some (.str p.1, .sh), jk x10]) (fun _ => true) eK rfl (rgL (toRg T)) fun p hp => ⟨?_, ?_, ?_, rfl⟩
          · rw [List.filter_eq_self.mpr (fun _ _ => rfl)] at e5
            exact e5
          · simp
          · simp
          · intro _
            have e6 := get_T T p hp
            simp [e6, eK]
        · rw [List.length_map, sl_ok]
          have : (rgL (toRg T)).length ≤ 2 := by cases T <;> simp [toRg, rgL]
          omega
end Hd
namespace Hd
open PySem PySem.Spec L2 Fx
def Vo (st : List Int) (m : Nat) (ow : Option (Int × Int × Rg)) : Prop := ∀ x p g, ow = some (x, p, g) → 0 ≤ p ∧ p ≤ st.length ∧ p < m
theorem vo_next {cs : List Cd} {st : List Int} {m : Nat} {x p : Int} {g : Rg} (h : ∀ c ∈ cs, GC c) (v : Vo st (m + 1) (some (x, p, g))) : Vo st m (callerOf cs st x p g) := by
  obtain ⟨v1, v2, v3⟩ := v x p g rfl
  intro x' p' g' e
  unfold callerOf at e
  cases hc : codeAt cs x with
  | none => rw [hc] at e; cases e
  | some c =>
    rw [hc] at e
    have gc := h c (code_mem hc)
    dsimp only at e
    cases hr : ruleAt c.rules (x - c.beg) with
    | none => rw [hr] at e; cases e
    | some r =>
      rw [hr] at e
      have f0 := (gc.r r (rule_mem hr)).far0
      dsimp only at e
      by_cases hp : p - 1 - r.far < 0
      · rw [if_pos hp] at e; cases e
      · rw [if_neg hp] at e
        cases e
        refine ⟨?_, ?_, ?_⟩ <;> omega
theorem code0 {cs : List Cd} (h : ∀ c ∈ cs, GC c) : codeAt cs 0 = none := by
  unfold codeAt
  rw [List.filter_eq_nil_iff.mpr]
  · rfl
  · intro c hc
    have := (h c hc).b1
    simp [inC]
    omega
end Hd
namespace Hd
open PySem PySem.Spec L2 Fx
theorem next_ex {dr : List Int} (h : Ok997 dr) (n : Nat) (m : Int) (hm : 0 < m) : ∃ v, 0 ≤ v ∧ v < m ∧ F__law_next (eW dr n) [.int m] = some (.int v, false, eW dr (n + 1)) := by
  refine ⟨_, ?_, ?_, next_ok dr n m hm⟩
  · split
    · exact Int.emod_nonneg _ (by omega)
    · omega
  · split
    · exact Int.emod_lt_of_pos _ hm
    · exact hm
/-! ### the kept registers of a rule -/
def IKp (dr : List Int) (x1 x2 x3 x4 x5 : Option (D × Fl)) (far : Int) (x7 x8 : Option (D × Fl)) (en : En) : Prop := ∃ n, en = [some (eW dr n, .lent), x1, x2, x3, x4, x5, some (.int far, .sh), x7, x8, none, none]
def IKa (dr : List Int) (x1 x2 x3 x4 x5 : Option (D × Fl)) (far : Int) (x7 x8 : Option (D × Fl)) (ds acc : List D) (w : En) : Prop := ∃ kp : List (Str × Int), acc = kp.map eK ∧ kp.length + ds.length ≤ 2 ∧ (∀ p ∈ kp, (p.1 = nA ∨ p.1 = nB) ∧ 1 ≤ p.2 ∧ p.2 ≤ far) ∧ IKp dr x1 x2 x3 x4 x5 far x7 x8 w ∧ ∀ d ∈ ds, ∃ (k : Int) (z : Str), 0 ≤ k ∧ (z = nA ∨ z = nB) ∧ d = .tuple [.int k, .str z]
theorem kept_ex {dr : List Int} (hd : Ok997 dr) (n : Nat) (x1 x2 x3 x4 x5 x7 x8 : Option (D × Fl)) (far : Int) :
    Wp (lcL [9, 10] (gT 2 (gsCons (gN 9) (gsCons (gN 10) (gsNil)))) (tAndF (tB1 (f2 (fSlot 9) (fSlot 6) (isI iLt))) (tB1 (f2 (toO (fCallW 1 0 (lCons (fC (.int 2)) (lNil)) F__law_next)) (svO (fC (.int 0))) (dEq)))) (fTup (lCons (fName 10) (lCons (toV (f2 (svO (fC (.int 1))) (fSlot 9) (dAdd))) (lNil))))
      [.tuple [.int 0, .str nA], .tuple [.int 1, .str nB]] [some (eW dr n, .lent), x1, x2, x3, x4, x5, some (.int far, .sh), x7, x8, none, none])
      fun y => ∃ kp : List (Str × Int), y.1 = kp.map eK ∧ kp.length ≤ 2 ∧ (∀ p ∈ kp, (p.1 = nA ∨ p.1 = nB) ∧ 1 ≤ p.2 ∧ p.2 ≤ far) ∧ IKp dr x1 x2 x3 x4 x5 far x7 x8 y.2 := by
  refine wp_mono (lc_inv (IKa dr x1 x2 x3 x4 x5 far x7 x8) ?_ _ [] _ ?_) ?_
  · rintro d r acc w ⟨kp, rfl, h1, h2, ⟨n, rfl⟩, h3⟩
    rw [List.length_cons] at h1
    obtain ⟨k, z, k0, hz, rfl⟩ := h3 d (List.mem_cons_self ..)
    obtain ⟨v, v0, v1, e⟩ := next_ex hd n 2 (by omega)
    by_cases hk : k < far
    · by_cases hv : v = 0
      · subst hv
        simp [hk, e, dEq_i]
        exact ⟨kp ++ [(z, 1 + k)], by simp [eK], by simp; omega, fun p hp => by
          rcases List.mem_append.mp hp with hp | hp
          · exact h2 p hp
          · rw [List.mem_singleton.mp hp]
            exact ⟨hz, by show 1 ≤ 1 + k; omega, by show 1 + k ≤ far; omega⟩, ⟨_, rfl⟩, fun d hd' => h3 d (List.mem_cons_of_mem _ hd')⟩
      · simp [hk, e, dEq_i, hv]
        exact ⟨kp, rfl, by omega, h2, ⟨_, rfl⟩, fun d hd' => h3 d (List.mem_cons_of_mem _ hd')⟩
    · simp [hk]
      exact ⟨kp, rfl, by omega, h2, ⟨_, rfl⟩, fun d hd' => h3 d (List.mem_cons_of_mem _ hd')⟩
  · refine ⟨[], rfl, by simp, fun p hp => (by cases hp), ⟨n, rfl⟩, fun d hd' => ?_⟩
    simp only [List.mem_cons, List.not_mem_nil, or_false] at hd'
    rcases hd' with rfl | rfl
    · exact ⟨0, nA, by omega, .inl rfl, rfl⟩
    · exact ⟨1, nB, by omega, .inr rfl, rfl⟩
  · rintro y ⟨kp, h0, h1, h2, h3, _⟩
    exact ⟨kp, h0, by simpa using h1, h2, h3⟩
/-! ### the rules of one code -/
def IPl (dr : List Int) (x1 x2 x3 : Option (D × Fl)) (size : Int) (left : Nat) (en : En) : Prop := ∃ (n : Nat) (rules : List Rl) (far : Int) (x7 x8 : Option (D × Bool)), en = [some (eW dr n, .lent), x1, x2, x3, some (.int size, .sh), some (.list (rules.map eR), .own), some (.int far, .sh), jk x7, jk x8, none, none] ∧ (∀ r ∈ rules, GR r) ∧ rules.length + left ≤ 100 ∧ 0 ≤ far
def IBo (dr : List Int) (x1 x2 x3 : Option (D × Fl)) (size far : Int) (k : Nat) (left : Nat) (en : En) : Prop := ∃ (n : Nat) (rules : List Rl) (x8 : Option (D × Bool)), en = [some (eW dr n, .lent), x1, x2, x3, some (.int size, .sh), some (.list (rules.map eR), .own), some (.int far, .sh), some (.int k, .sh), jk x8, none, none] ∧ (∀ r ∈ rules, GR r) ∧ rules.length + left ≤ 100
theorem places_ex {dr : List Int} (hd : Ok997 dr) (x1 x2 x3 : Option (D × Fl)) (size : Int) (s : Nat) (en : En) (h : IPl dr x1 x2 x3 size s en) :
    Wp (forL (gN 7) (sSeq (sIf (tOrF (tAndF (tB1 (f2 (fSlot 7) (svO (fC (.int 0))) (dEq))) (tB1 (f2 (toO (fCallW 1 0 (lCons (fC (.int 5)) (lNil)) F__law_next)) (svO (fC (.int 0))) (isI iGt)))) (tAndF (tB1 (f2 (fSlot 7) (svO (fC (.int 0))) (isI iGt))) (tB1 (f2 (toO (fCallW 1 0 (lCons (fC (.int 2)) (lNil)) F__law_next)) (svO (fC (.int 0))) (dEq))))) (sSeq (sSet 8 (fN (aCons (toO (fLc [9, 10] (itV (fTup (lCons (fTup (lCons (fC (.int 0)) (lCons (fC (.str "a")) (lNil)))) (lCons (fTup (lCons (fC (.int 1)) (lCons (fC (.str "b")) (lNil)))) (lNil))))) (gT 2 (gsCons (gN 9) (gsCons (gN 10) (gsNil)))) (tAndF (tB1 (f2 (fSlot 9) (fSlot 6) (isI iLt))) (tB1 (f2 (toO (fCallW 1 0 (lCons (fC (.int 2)) (lNil)) F__law_next)) (svO (fC (.int 0))) (dEq)))) (fTup (lCons (fName 10) (lCons (toV (f2 (svO (fC (.int 1))) (fSlot 9) (dAdd))) (lNil)))))) (aNil)) dTuple)) (sExpr (fMut 5 isLst (lCons (fTup (lCons (fName 7) (lCons (fTup (lCons (fName 6) (lCons (fName 8) (lNil)))) (lNil)))) (lNil)) mAppend))) (sNx)) (sAugN 6 (toV (fCallW 1 0 (lCons (fC (.int 2)) (lNil)) F__law_next)) zAdd)) (rngD 0 1 s) en)
      fun y => y.1 = .nx ∧ IPl dr x1 x2 x3 size 0 y.2 := by
  refine for_inv (fun ds en => IPl dr x1 x2 x3 size ds.length en ∧ ∀ d ∈ ds, ∃ k : Nat, d = .int k ∧ k < s) ?_ ?_ _ _ ⟨by rw [rng_len]; exact h, fun d hd => rng_mem hd⟩
  · rintro d r en ⟨⟨n, rules, far, x7, x8, rfl, h1, h2, h3⟩, hr⟩
    rw [List.length_cons] at h2
    obtain ⟨k, rfl, hk⟩ := hr d (List.mem_cons_self ..)
    have hr' : ∀ d ∈ r, ∃ k : Nat, d = .int k ∧ k < s := fun d hd' => hr d (List.mem_cons_of_mem _ hd')
    -- what stands behind the if
    have tail : ∀ (n : Nat) (rules : List Rl) (x8 : Option (D × Bool)), (∀ r ∈ rules, GR r) → rules.length + r.length ≤ 100 → Wp (sAugN 6 (toV (fCallW 1 0 (lCons (fC (.int 2)) (lNil)) F__law_next)) zAdd [some (eW dr n, .lent), x1, x2, x3, some (.int size, .sh), some (.list (rules.map eR), .own), some (.int far, .sh), some (.int k, .sh), jk x8, none, none]) fun y => y.1 = .nx ∧ IPl dr x1 x2 x3 size r.length y.2 := by
      intro n rules x8 h1 h2
      obtain ⟨v, v0, v1, e⟩ := next_ex hd n 2 (by omega)
      simp [e]
      exact ⟨_, rules, far + v, some (.int k, false), x8, rfl, h1, h2, by omega⟩
    -- the if's body
    have body : ∀ (n : Nat), Wp (sSeq (sSet 8 (fN (aCons (toO (fLc [9, 10] (itV (fTup (lCons (fTup (lCons (fC (.int 0)) (lCons (fC (.str "a")) (lNil)))) (lCons (fTup (lCons (fC (.int 1)) (lCons (fC (.str "b")) (lNil)))) (lNil))))) (gT 2 (gsCons (gN 9) (gsCons (gN 10) (gsNil)))) (tAndF (tB1 (f2 (fSlot 9) (fSlot 6) (isI iLt))) (tB1 (f2 (toO (fCallW 1 0 (lCons (fC (.int 2)) (lNil)) F__law_next)) (svO (fC (.int 0))) (dEq)))) (fTup (lCons (fName 10) (lCons (toV (f2 (svO (fC (.int 1))) (fSlot 9) (dAdd))) (lNil)))))) (aNil)) dTuple)) (sExpr (fMut 5 isLst (lCons (fTup (lCons (fName 7) (lCons (fTup (lCons (fName 6) (lCons (fName 8) (lNil)))) (lNil)))) (lNil)) mAppend)) [some (eW dr n, .lent), x1, x2, x3, some (.int size, .sh), some (.list (rules.map eR), .own), some (.int far, .sh), some (.int k, .sh), jk x8, none, none]) fun y => y.1 = .nx ∧ IBo dr x1 x2 x3 size far k r.length y.2 := by
      intro n
      obtain ⟨y, e1, kp, e2, h4, h5, n', e3⟩ := kept_ex hd n x1 x2 x3 (some (.int size, .sh)) (some (.list (rules.map eR), .own)) (some (.int k, .sh)) (jk x8) far
      obtain ⟨rs, en'⟩ := y
      dsimp only at e2 e3
      subst e2
      subst e3
      have hfl := flc_eq (it := itV (fTup (lCons (fTup (lCons (fC (.int 0)) (lCons (fC (.str "a")) (lNil)))) (lCons (fTup (lCons (fC (.int 1)) (lCons (fC (.str "b")) (lNil)))) (lNil))))) (en := [some (eW dr n, .lent), x1, x2, x3, some (.int size, .sh), some (.list (rules.map eR), .own), some (.int far, .sh), some (.int k, .sh), jk x8, none, none]) (by rw [e_itV]; simp; exact ⟨rfl, rfl⟩) e1 (by rw [List.length_map, sl_ok]; omega)
      have hz : rules.length < 16777216 := by omega
      simp [hfl, backE]
      refine later_i ?_
      simp [hz]
      refine ⟨n', rules ++ [⟨k, far, kp⟩], some (.tuple (kp.map eK), false), by simp [eF]; rfl, fun r' hr' => ?_, by simp; omega⟩
      rcases List.mem_append.mp hr' with hr' | hr'
      · exact h1 r' hr'
      · rw [List.mem_singleton.mp hr']
        exact ⟨h3, by show (0:Int) ≤ k; omega, h4, h5⟩
    -- the test
    have test : ∃ (b : Bool) (n' : Nat), (tOrF (tAndF (tB1 (f2 (fSlot 7) (svO (fC (.int 0))) (dEq))) (tB1 (f2 (toO (fCallW 1 0 (lCons (fC (.int 5)) (lNil)) F__law_next)) (svO (fC (.int 0))) (isI iGt)))) (tAndF (tB1 (f2 (fSlot 7) (svO (fC (.int 0))) (isI iGt))) (tB1 (f2 (toO (fCallW 1 0 (lCons (fC (.int 2)) (lNil)) F__law_next)) (svO (fC (.int 0))) (dEq))))) [some (eW dr n, .lent), x1, x2, x3, some (.int size, .sh), some (.list (rules.map eR), .own), some (.int far, .sh), some (.int k, .sh), jk x8, none, none] = some (b, [some (eW dr n', .lent), x1, x2, x3, some (.int size, .sh), some (.list (rules.map eR), .own), some (.int far, .sh), some (.int k, .sh), jk x8, none, none]) := by
      by_cases hk0 : k = 0
      · obtain ⟨v, v0, v1, e⟩ := next_ex hd n 5 (by omega)
        by_cases hv : 0 < v
        · exact ⟨true, n + 1, by simp [hk0, e, dEq_i, hv]⟩
        · exact ⟨false, n + 1, by simp [hk0, e, dEq_i, hv]⟩
      · obtain ⟨v, v0, v1, e⟩ := next_ex hd n 2 (by omega)
        have hk1 : (0 : Int) < k := by omega
        by_cases hv : v = 0
        · exact ⟨true, n + 1, by simp [hk0, hk1, e, dEq_i, hv]⟩
        · exact ⟨false, n + 1, by simp [hk0, hk1, e, dEq_i, hv]⟩
    obtain ⟨b, n', et⟩ := test
    simp only [e_gN, free_cons, free_jk, if_true, List.set_cons_succ, List.set_cons_zero, wp_some]
    rw [wp_sSeq, e_sIf, et, wp_bind]
    cases b with
    | true =>
      refine wp_some.mpr ?_
      refine wp_mono (body n') ?_
      rintro ⟨o, en⟩ ⟨e, n2, rules2, x82, e2, q1, q2⟩
      dsimp only at e e2
      subst e
      subst e2
      refine wp_mono (tail n2 rules2 x82 q1 q2) ?_
      rintro ⟨o, en⟩ ⟨e, h⟩
      dsimp only at e
      subst e
      exact ⟨h, hr'⟩
    | false =>
      refine wp_some.mpr ?_
      refine wp_some.mpr ?_
      refine wp_mono (tail n' rules x8 h1 (by omega)) ?_
      rintro ⟨o, en⟩ ⟨e, h⟩
      dsimp only at e
      subst e
      exact ⟨h, hr'⟩
  · rintro en ⟨h, _⟩
    exact ⟨rfl, h⟩
/-! ### codes -/
def Pw (cs : List Cd) : Prop := cs.Pairwise fun c d => c.beg + c.size ≤ d.beg
def ICs (dr : List Int) (left : Nat) (m : Nat) (en : En) : Prop := ∃ (n : Nat) (cs : List Cd) (beg : Int) (x3 x4 x5 x6 x7 x8 : Option (D × Bool)), en = [some (eW dr n, .lent), some (.list (cs.map eC), .own), some (.int beg, .sh), jk x3, jk x4, jk x5, jk x6, jk x7, jk x8, none, none] ∧ (∀ c ∈ cs, GC c ∧ c.beg + c.size ≤ beg) ∧ Pw cs ∧ cs.length + left = m ∧ 1 ≤ beg ∧ beg ≤ 10 + 10 * (cs.length : Int)
theorem name_k (k : Nat) (hk : k < 3) : ∃ z, dIxA (.list [.str (Str.ofString "f"), .str (Str.ofString "g"), .str (Str.ofString "h")]) (.int k) = some (.str z, false) ∧ (z = Str.ofString "f" ∨ z = Str.ofString "g" ∨ z = Str.ofString "h") := by
  match k, hk with
  | 0, _ => exact ⟨_, by simp, .inl rfl⟩
  | 1, _ => exact ⟨_, by simp, .inr (.inl rfl)⟩
  | 2, _ => exact ⟨_, by simp, .inr (.inr rfl)⟩
theorem codes_ok {dr : List Int} (hd : Ok997 dr) (n : Nat) : Wp (F__law_codes (eW dr n) []) fun y => ∃ (cs : List Cd) (n' : Nat), y = (.tuple (cs.map eC), false, eW dr n') ∧ (∀ c ∈ cs, GC c) ∧ Pw cs ∧ 1 ≤ cs.length ∧ cs.length ≤ 3 := by
  show Wp (mkW 11 b__law_codes _ _) _
  rw [mkW_e, wp_bind]
  show Wp (b__law_codes [some (eW dr n, .lent), none, none, none, none, none, none, none, none, none, none]) _
  unfold b__law_codes
  obtain ⟨v, v0, v1, e⟩ := next_ex hd n 4 (by omega)
  simp [e]
  refine later_i ?_
  obtain ⟨u, u0, u1, e'⟩ := next_ex hd (n + 1) 3 (by omega)
  obtain ⟨u, rfl⟩ : ∃ k : Nat, u = k := ⟨u.toNat, by omega⟩
  have er : range1D [.int (1 + (u : Int))] = some (rngD 0 1 (u + 1)) := by
    rw [show (1 + (u : Int)) = ((u + 1 : Nat) : Int) by omega]
    exact range1_nat (by omega)
  simp [e', er]
  refine wp_mono (for_inv (fun ds en => ICs dr ds.length (u + 1) en ∧ ∀ d ∈ ds, ∃ k : Nat, d = .int k ∧ k < u + 1) (Q := fun y => y.1 = .nx ∧ ICs dr 0 (u + 1) y.2) ?_ ?_ _ _ ⟨⟨_, [], 1 + v, none, none, none, none, none, none, rfl, fun c hc => (by cases hc), .nil, by rw [rng_len]; simp, by omega, by simp; omega⟩, fun d hd => rng_mem hd⟩) ?_
  · rintro d r en ⟨⟨n, cs, beg, x3, x4, x5, x6, x7, x8, rfl, h1, h2, h3, h4, h5⟩, hr⟩
    rw [List.length_cons] at h3
    obtain ⟨k, rfl, hk⟩ := hr d (List.mem_cons_self ..)
    have hr' : ∀ d ∈ r, ∃ k : Nat, d = .int k ∧ k < u + 1 := fun d hd' => hr d (List.mem_cons_of_mem _ hd')
    obtain ⟨s, s0, s1, es⟩ := next_ex hd n 4 (by omega)
    obtain ⟨s, rfl⟩ : ∃ k : Nat, s = k := ⟨s.toNat, by omega⟩
    have er : range1D [.int (2 + (s : Int))] = some (rngD 0 1 (s + 2)) := by
      rw [show (2 + (s : Int)) = ((s + 2 : Nat) : Int) by omega]
      exact range1_nat (by omega)
    simp [es]
    refine later_i ?_
    rw [wp_sSeq, wp_sFor, wp_itR]
    simp [er, -wp_sSeq]
    refine wp_mono (places_ex hd _ _ _ (2 + s) (s + 2) _ ⟨n + 1, [], 0, x7, x8, rfl, fun c hc => (by cases hc), by simp; omega, by omega⟩) ?_
    rintro ⟨o, en⟩ ⟨e, n2, rules, far, x7', x8', e2, q1, q2, q3⟩
    dsimp only at e e2
    subst e
    subst e2
    refine later_i ?_
    obtain ⟨z, ez, hz⟩ := name_k k (by omega)
    have hl : cs.length < 16777216 := by omega
    simp [-dIxA_l, ez, hl]
    refine later_i ?_
    obtain ⟨t, t0, t1, et⟩ := next_ex hd n2 3 (by omega)
    simp [et]
    have gc : GC ⟨z, beg, 2 + s, rules⟩ := ⟨hz, h4, by show beg ≤ 40; omega, by show (2:Int) ≤ 2 + s; omega, by show (2 + (s:Int)) ≤ 5; omega, by show rules.length ≤ 1000; omega, q1⟩
    refine ⟨⟨n2 + 1, cs ++ [⟨z, beg, 2 + s, rules⟩], beg + (2 + s + t), some (.int k, false), some (.int (2 + s), false), some (.list (rules.map eR), true), some (.int far, false), x7', x8', ?_, ?_, ?_, ?_, ?_, ?_⟩, hr'⟩
    · simp [jk_sh, jk_own]
    · intro c hc
      rcases List.mem_append.mp hc with hc | hc
      · exact ⟨(h1 c hc).1, by have := (h1 c hc).2; omega⟩
      · rw [List.mem_singleton.mp hc]
        exact ⟨gc, by show beg + (2 + (s:Int)) ≤ _; omega⟩
    · refine List.pairwise_append.mpr ⟨h2, List.pairwise_singleton _ _, fun c hc d hd' => ?_⟩
      rw [List.mem_singleton.mp hd']
      exact (h1 c hc).2
    · simp; omega
    · omega
    · simp; omega
  · rintro en ⟨h, _⟩
    exact ⟨rfl, h⟩
  · rintro ⟨o, en⟩ ⟨e, n, cs, beg, x3, x4, x5, x6, x7, x8, e2, h1, h2, h3, h4, h5⟩
    dsimp only at e e2
    subst e
    subst e2
    refine later_i ?_
    simp
    exact ⟨cs, ⟨rfl, n, rfl⟩, fun c hc => (h1 c hc).1, h2, by omega, by omega⟩
end Hd
namespace Hd
open PySem PySem.Spec L2 Fx
theorem rgD_map (i j : Int) : rgD i j = ((List.range (j - i).toNat).map fun n => i + (n : Nat)).map PyData.int := by
  unfold rgD
  rw [List.map_map]
  rfl
def ISp (dr : List Int) (n : Nat) (C : Option (D × Fl)) (ds : List D) (en : En) : Prop := ∃ (cs : List Cd) (sp : List Int) (x3 x4 x5 x6 : Option (D × Bool)), ds = cs.map eC ∧ (∀ c ∈ cs, GC c) ∧ en = [some (eW dr n, .lent), C, some (.list (sp.map .int), .own), jk x3, jk x4, jk x5, jk x6, none, none, none, none] ∧ 1 ≤ sp.length ∧ sp.length + 1000 * cs.length ≤ 5000
def ISt (dr : List Int) (C : Option (D × Fl)) (sp : List Int) (x3 x4 x5 x6 : Option (D × Fl)) (m : Nat) (ds acc : List D) (w : En) : Prop := ∃ (st : List Int) (n : Nat), acc = st.map PyData.int ∧ w = [some (eW dr n, .lent), C, some (.list (sp.map .int), .own), x3, x4, x5, x6, none, none, none, none] ∧ st.length + ds.length = m
def IRg (dr : List Int) (C : Option (D × Fl)) (S : Option (D × Fl)) (x4 x5 x6 x7 x9 : Option (D × Fl)) (ds acc : List D) (w : En) : Prop := ∃ n, w = [some (eW dr n, .lent), C, S, none, x4, x5, x6, x7, none, x9, none] ∧ ((ds = [.str nA, .str nB] ∧ acc = []) ∨ (ds = [.str nB] ∧ (acc = [] ∨ ∃ x, acc = [eK (nA, x)])) ∨ (ds = [] ∧ ∃ rg, acc = (rgL rg).map eK))
theorem world_ok {dr : List Int} (hd : Ok997 dr) (n : Nat) (cs : List Cd) (hc : ∀ c ∈ cs, GC c) (hl : cs.length ≤ 3) : Wp (F__law_world (eW dr n) [.tuple (cs.map eC)]) fun y => ∃ (st : List Int) (a top : Int) (rg : Rg) (n' : Nat), y = (.tuple [eS st, .int a, .int top, eG rg], false, eW dr n') ∧ 1 ≤ top ∧ top ≤ st.length ∧ st.length ≤ 10 := by
  show Wp (mkW 11 b__law_world _ _) _
  rw [mkW_e, wp_bind]
  show Wp (b__law_world [some (eW dr n, .lent), some (.tuple (cs.map eC), .sh), none, none, none, none, none, none, none, none, none]) _
  unfold b__law_world
  simp
  refine later_i ?_
  rw [wp_sSeq, wp_sFor, wp_itV]
  simp [-wp_sSeq]
  refine wp_mono (for_inv (ISp dr n (some (.tuple (cs.map eC), .sh))) (Q := fun y => y.1 = .nx ∧ ISp dr n (some (.tuple (cs.map eC), .sh)) [] y.2) ?_ ?_ _ _ ⟨cs, [0, 0], none, none, none, none, rfl, hc, rfl, by simp, by simp; omega⟩) ?_
  · rintro d r en ⟨cs', sp, x3, x4, x5, x6, e1, h1, rfl, h2, h3⟩
    cases cs' with
    | nil => cases e1
    | cons c cs' =>
      rw [List.map_cons] at e1
      cases e1
      rw [List.length_cons] at h3
      have g := h1 c (List.mem_cons_self ..)
      have hr : rgOk c.beg (c.beg + c.size) = true := rgOk_le (by have := g.b1; omega) (by have := g.b2; omega) (by have := g.b1; have := g.s1; omega) (by have := g.b2; have := g.s2; omega)
      have hz : sp.length + (rgD c.beg (c.beg + c.size)).length ≤ 16777216 := by
        rw [rgD_map, List.length_map, List.length_map, List.length_range]
        have := g.s2
        omega
      simp [hr, hz, -rgOk_n]
      refine ⟨cs', sp ++ ((List.range (c.beg + c.size - c.beg).toNat).map fun n => c.beg + (n : Nat)), some (.str c.name, false), some (.int c.beg, false), some (.int c.size, false), some (.tuple (c.rules.map eR), false), rfl, fun c' hc' => h1 c' (List.mem_cons_of_mem _ hc'), by rw [rgD_map, List.map_append]; rfl, by simp; omega, ?_⟩
      have := g.s2
      have := g.s1
      simp
      omega
  · intro en h
    exact ⟨rfl, h⟩
  · rintro ⟨o, en⟩ ⟨e, cs', sp, x3, x4, x5, x6, e1, h1, e2, h2, h3⟩
    dsimp only at e e2
    subst e
    subst e2
    refine later_i ?_
    have hsp : ∀ v : Int, 0 ≤ v → v < sp.length → atI (sp.map PyData.int) v = some (.int (stAt sp v)) := fun v v0 v1 => at_st sp v v0 v1
    have hspl : (0 : Int) < sp.length := by omega
    -- the stack
    obtain ⟨u, u0, u1, eu⟩ := next_ex hd n 9 (by omega)
    obtain ⟨u, rfl⟩ : ∃ k : Nat, u = k := ⟨u.toNat, by omega⟩
    have er : range1D [.int (1 + (u : Int))] = some (rngD 0 1 (u + 1)) := by
      rw [show (1 + (u : Int)) = ((u + 1 : Nat) : Int) by omega]
      exact range1_nat (by omega)
    rw [wp_sSeq, e_sSet, wp_bind, e_fN, wp_bind, e_aCons, wp_bind, e_toO, wp_map]
    refine flc_wp ?_
    rw [wp_itR]
    simp [eu, er]
    refine wp_mono (lc_inv (ISt dr (some (.tuple (cs.map eC), .sh)) sp (jk x3) (jk x4) (jk x5) (jk x6) (u + 1)) ?_ _ [] _ ⟨[], n + 1, rfl, rfl, by rw [rng_len]; simp⟩) ?_
    · rintro d r acc w ⟨st, n, rfl, rfl, q⟩
      rw [List.length_cons] at q
      obtain ⟨a, a0, a1, ea⟩ := next_ex hd n 3 (by omega)
      obtain ⟨b, b0, b1, eb⟩ := next_ex hd (n + 1) sp.length hspl
      obtain ⟨c, c0, c1, ec⟩ := next_ex hd (n + 1) 30 (by omega)
      by_cases ha : 0 < a
      · simp [ea, ha, eb, hsp b b0 b1]
        exact ⟨st ++ [stAt sp b], n + 2, by simp, rfl, by simp; omega⟩
      · simp [ea, ha, ec]
        exact ⟨st ++ [c], n + 2, by simp, rfl, by simp; omega⟩
    · rintro ⟨rs, w⟩ ⟨st, n2, e3, e4, e5⟩
      rw [List.nil_append] at e3
      dsimp only at e3 e4
      subst e3
      subst e4
      have e5 : st.length = u + 1 := by simpa using e5
      have hz : st.length ≤ 16777216 := by omega
      simp [hz, backE]
      refine later_i ?_
      obtain ⟨b, b0, b1, eb⟩ := next_ex hd n2 sp.length hspl
      simp [eb, hsp b b0 b1]
      refine later_i ?_
      rw [wp_sSeq, e_sSet, wp_bind, e_fN, wp_bind, e_aCons, wp_bind, e_toO, wp_map]
      refine flc_wp ?_
      rw [wp_itV]
      simp
      refine wp_mono (lc_inv (IRg dr (some (.tuple (cs.map eC), .sh)) (some (.list (sp.map .int), .own)) (jk x4) (jk x5) (jk x6) (some (.tuple (st.map .int), .sh)) (some (.int (stAt sp b), .sh))) ?_ _ [] _ ⟨n2 + 1, rfl, .inl ⟨rfl, rfl⟩⟩) ?_
      · rintro d r acc w ⟨n, rfl, h⟩
        obtain ⟨a, a0, a1, ea⟩ := next_ex hd n 2 (by omega)
        obtain ⟨x, _, _, ex⟩ := next_ex hd (n + 1) 9 (by omega)
        rcases h with ⟨h, rfl⟩ | ⟨h, h'⟩ | ⟨h, _⟩
        · cases h
          by_cases ha : a = 0
          · subst ha
            simp [ea, dEq_i, ex]
            exact ⟨_, rfl, .inr (.inl ⟨rfl, .inr ⟨x, rfl⟩⟩)⟩
          · simp [ea, dEq_i, ha]
            exact ⟨_, rfl, .inr (.inl ⟨rfl, .inl rfl⟩)⟩
        · cases h
          by_cases ha : a = 0
          · subst ha
            simp [ea, dEq_i, ex]
            rcases h' with rfl | ⟨y, rfl⟩
            · exact ⟨_, rfl, .inr (.inr ⟨rfl, ⟨none, some x⟩, rfl⟩)⟩
            · exact ⟨_, rfl, .inr (.inr ⟨rfl, ⟨some y, some x⟩, rfl⟩)⟩
          · simp [ea, dEq_i, ha]
            rcases h' with rfl | ⟨y, rfl⟩
            · exact ⟨_, rfl, .inr (.inr ⟨rfl, ⟨none, none⟩, rfl⟩)⟩
            · exact ⟨_, rfl, .inr (.inr ⟨rfl, ⟨some y, none⟩, rfl⟩)⟩
        · cases h
      · rintro ⟨rs, w⟩ ⟨n3, e6, h⟩
        dsimp only at e6
        subst e6
        rcases h with ⟨h, _⟩ | ⟨h, _⟩ | ⟨_, rg, e7⟩
        · cases h
        · cases h
        · rw [List.nil_append] at e7
          dsimp only at e7
          subst e7
          have hr : (rgL rg).length ≤ 16777216 := by
            obtain ⟨a, b⟩ := rg
            cases a <;> cases b <;> simp [rgL]
          simp [hr, backE]
          refine later_i ?_
          obtain ⟨t, t0, t1, et⟩ := next_ex hd n3 st.length (by omega)
          simp [et]
          exact ⟨st, _, _, ⟨⟨rfl, rfl, rfl, rg, rfl⟩, _, rfl⟩, by omega, by omega, by omega⟩
end Hd
namespace Hd
open PySem PySem.Spec L2 Fx
@[simp] theorem dEq_i' (i j : Int) : dEq (.int i) (.int j) = some (.bool (decide (i = j)), false) := dEq_i i j
/-! ### guesses -/
def gsP (st ca : List Int) (n : Nat) : Bool := decide (stAt st n - 1 ∈ ca)
def gsN (st ca : List Int) (top : Nat) : List Nat := (List.range top).reverse.filter (gsP st ca)
def gsI (st ca : List Int) (top : Nat) : List Int := (gsN st ca top).map fun n : Nat => (n : Int)
theorem gs_D (st ca : List Int) (top : Nat) : (gsI st ca top).map PyData.int = (gsN st ca top).map fun n : Nat => PyData.int (n : Int) := by
  unfold gsI
  rw [List.map_map]
  rfl
theorem gs_len (st ca : List Int) (top : Nat) : (gsN st ca top).length ≤ top := by
  refine Nat.le_trans (List.length_filter_le _ _) ?_
  rw [List.length_reverse, List.length_range]
  exact Nat.le_refl _
theorem gs_lt {st ca : List Int} {top n : Nat} (h : n ∈ gsN st ca top) : n < top := by
  have := (List.mem_filter.mp h).1
  rw [List.mem_reverse] at this
  exact List.mem_range.mp this
theorem rng_down (n : Nat) : rngD ((n : Int) - 1) (-1) n = (List.range n).reverse.map fun i : Nat => PyData.int (i : Int) := by
  unfold rngD
  apply List.ext_getElem
  · simp
  · intro i h1 h2
    simp only [List.getElem_map, List.getElem_range, List.getElem_reverse, List.length_range]
    simp only [List.length_map, List.length_range] at h1
    congr 1
    omega
theorem guesses_eq (C : D) (st ca : List Int) (top : Nat) (ht : top ≤ st.length) (hl : st.length ≤ 1000) : F_guesses [C, eS st, .int top, .tuple (ca.map .int)] = some (.tuple ((gsI st ca top).map .int), false) := by
  unfold F_guesses b_guesses
  rw [mk0_e]
  show Option.bind (sRet _ [some (C, .sh), some (eS st, .sh), some (.int top, .sh), some (.tuple (ca.map .int), .sh), none]) _ = _
  have e1 : range3D [.int ((top : Int) - 1), .int (-1), .int (-1)] = some (rngD ((top : Int) - 1) (-1) top) := by
    show (if _ then _ else _) = _
    rw [if_pos (by simp [inLine]; omega), show ((top : Int) - 1 - -1).toNat = top by omega]
  rw [e_sRet, e_fN, e_aCons, e_toO, flc_eq (ds := (List.range top).reverse.map fun i : Nat => PyData.int (i : Int)) (rs := (gsN st ca top).map fun n : Nat => PyData.int (n : Int)) (en1 := [some (C, .sh), some (eS st, .sh), some (.int top, .sh), some (.tuple (ca.map .int), .sh), none]) (en2 := [some (C, .sh), some (eS st, .sh), some (.int top, .sh), some (.tuple (ca.map .int), .sh), none]) ?_ ?_ ?_]
  · simp [backE, gs_D]
  · rw [e_itR, ← rng_down]
    simp [e1, dNeg]
  · refine lc_typ (fun n : Nat => PyData.int (n : Int)) (fun n : Nat => [some (C, .sh), some (eS st, .sh), some (.int top, .sh), some (.tuple (ca.map .int), .sh), some (.int n, .sh)]) (gsP st ca) (fun n : Nat => PyData.int (n : Int)) rfl _ fun n hn => ⟨?_, ?_, ?_, rfl⟩
    · simp [wipeE]
    · have hn' : n < top := List.mem_range.mp (List.mem_reverse.mp hn)
      have e2 := at_st st n (by omega) (by omega)
      simp [eS_e, e2, gsP]
    · intro _
      simp
  · rw [List.length_map, sl_ok]
    have := gs_len st ca top
    omega
/-! ### names that are guessed -/
def oN : Option Cd → Int → D
  | some c, a => .tuple [.str c.name, .int (a - c.beg)]
  | none, _ => .none
theorem name_for_oN (cs : List Cd) (a : Int) (hl : cs.length ≤ 1000) (h : ∀ c ∈ cs, GC c) : F_name_for [.tuple (cs.map eC), .int a] = some (oN (codeAt cs a) a, false) := by
  rw [name_for_eq cs a hl h]
  cases codeAt cs a <;> rfl
def nmS (cs : List Cd) (st : List Int) (ns : List Nat) : List Str := (ns.filter fun n : Nat => (codeAt cs (stAt st n)).isSome).map fun n : Nat => match codeAt cs (stAt st n) with
  | some c => c.name
  | none => Str.ofString ""
def nm1 (cs : List Cd) (st : List Int) (n : Nat) : D := .str (match codeAt cs (stAt st n) with
  | some c => c.name
  | none => Str.ofString "")
theorem guessed_names_eq (cs : List Cd) (hc : cs.length ≤ 1000) (h : ∀ c ∈ cs, GC c) (st ca : List Int) (top : Nat) (ht : top ≤ st.length) (hl : st.length ≤ 1000) :
    F_guessed_names [.tuple (cs.map eC), eS st, .int top, .tuple (ca.map .int)] = some (.tuple ((nmS cs st (gsN st ca top)).map .str), false) := by
  unfold F_guessed_names b_guessed_names
  rw [mk0_e]
  show Option.bind (sSeq _ _ [some (.tuple (cs.map eC), .sh), some (eS st, .sh), some (.int top, .sh), some (.tuple (ca.map .int), .sh), none, none, none]) _ = _
  have e0 := guesses_eq (.tuple (cs.map eC)) st ca top ht hl
  have gl := gs_len st ca top
  rw [e_sSeq, e_sSet, flc_eq (ds := (gsN st ca top).map fun n : Nat => PyData.int (n : Int)) (rs := (gsN st ca top).map fun n : Nat => oN (codeAt cs (stAt st n)) (stAt st n)) (en1 := [some (.tuple (cs.map eC), .sh), some (eS st, .sh), some (.int top, .sh), some (.tuple (ca.map .int), .sh), none, none, none]) (en2 := [some (.tuple (cs.map eC), .sh), some (eS st, .sh), some (.int top, .sh), some (.tuple (ca.map .int), .sh), none, none, none]) ?_ ?_ ?_]
  · simp only [Option.bind_some, backE, List.getElem?_cons_succ, List.getElem?_cons_zero, List.set_cons_succ, List.set_cons_zero, free_cons, free_none, if_true, flag_t]
    rw [e_sRet, e_fN, e_aCons, e_toO, flc_eq (ds := (gsN st ca top).map fun n : Nat => oN (codeAt cs (stAt st n)) (stAt st n)) (rs := ((gsN st ca top).filter fun n : Nat => (codeAt cs (stAt st n)).isSome).map (nm1 cs st)) (en1 := [some (.tuple (cs.map eC), .sh), some (eS st, .sh), some (.int top, .sh), some (.tuple (ca.map .int), .sh), some (.list ((gsN st ca top).map fun n : Nat => oN (codeAt cs (stAt st n)) (stAt st n)), .sh), none, none]) (en2 := [some (.tuple (cs.map eC), .sh), some (eS st, .sh), some (.int top, .sh), some (.tuple (ca.map .int), .sh), some (.list ((gsN st ca top).map fun n : Nat => oN (codeAt cs (stAt st n)) (stAt st n)), .sh), none, none]) ?_ ?_ ?_]
    · simp [backE, nmS, nm1, List.map_map]
    · rw [e_itV]
      simp
    · refine lc_typ (fun n : Nat => oN (codeAt cs (stAt st n)) (stAt st n)) (fun n : Nat => [some (.tuple (cs.map eC), .sh), some (eS st, .sh), some (.int top, .sh), some (.tuple (ca.map .int), .sh), some (.list ((gsN st ca top).map fun n : Nat => oN (codeAt cs (stAt st n)) (stAt st n)), .sh), none, some (oN (codeAt cs (stAt st n)) (stAt st n), .sh)]) (fun n : Nat => (codeAt cs (stAt st n)).isSome) (nm1 cs st) rfl _ fun n hn => ⟨?_, ?_, ?_, rfl⟩
      · simp [wipeE]
      · cases hk : codeAt cs (stAt st n) <;> simp [oN]
      · intro hs
        cases hk : codeAt cs (stAt st n) with
        | none => rw [hk] at hs; cases hs
        | some c => simp [oN, nm1, hk]
    · rw [List.length_map, sl_ok]
      have := List.length_filter_le (fun n : Nat => (codeAt cs (stAt st n)).isSome) (gsN st ca top)
      omega
  · rw [e_itV]
    simp [e0, gs_D]
  · have e5 := lc_typ (vs := [5]) (s := gN 5) (t := tTrue) (f := toV (fCall 2 (lCons (fName 0) (lCons (toV (f2 (fSlot 1) (fSlot 5) dIxA)) (lNil))) F_name_for)) (w := [some (.tuple (cs.map eC), .sh), some (eS st, .sh), some (.int top, .sh), some (.tuple (ca.map .int), .sh), none, none, none]) (fun n : Nat => PyData.int (n : Int)) (fun n : Nat => [some (.tuple (cs.map eC), .sh), some (eS st, .sh), some (.int top, .sh), some (.tuple (ca.map .int), .sh), none, some (.int n, .sh), none]) (fun _ => true) (fun n : Nat => oN (codeAt cs (stAt st n)) (stAt st n)) rfl (gsN st ca top) fun n hn => ⟨?_, ?_, ?_, rfl⟩
    · rw [List.filter_eq_self.mpr (fun _ _ => rfl)] at e5
      exact e5
    · simp
    · simp
    · intro _
      have hn' := gs_lt hn
      have e2 := at_st st n (by omega) (by omega)
      have e3 := name_for_oN cs (stAt st n) hc h
      simp [eS_e, e2, e3]
  · rw [List.length_map, sl_ok]
    omega
/-! ### codes that are moved -/
def mv (by_ : Int) (c : Cd) : Cd := ⟨c.name, c.beg + by_, c.size, c.rules⟩
theorem mv_back (b : Int) (cs : List Cd) : (cs.map (mv b)).map (mv (0 - b)) = cs := by
  rw [List.map_map]
  have : (mv (0 - b) ∘ mv b) = id := by
    funext c
    obtain ⟨n, g, s, r⟩ := c
    simp [mv]
    omega
  rw [this, List.map_id]
theorem moved_eq (cs : List Cd) (hc : cs.length ≤ 1000) (b : Int) : F_moved [.tuple (cs.map eC), .int b] = some (.tuple ((cs.map (mv b)).map eC), false) := by
  unfold F_moved b_moved
  rw [mk0_e]
  show Option.bind (sRet _ [some (.tuple (cs.map eC), .sh), some (.int b, .sh), none, none, none, none]) _ = _
  rw [e_sRet, e_fN, e_aCons, e_toO, flc_eq (ds := cs.map eC) (rs := cs.map fun c => eC (mv b c)) (en1 := [some (.tuple (cs.map eC), .sh), some (.int b, .sh), none, none, none, none]) (en2 := [some (.tuple (cs.map eC), .sh), some (.int b, .sh), none, none, none, none]) ?_ ?_ ?_]
  · simp [backE]
  · rw [e_itV]
    simp
  · have e5 := lc_typ (vs := [2, 3, 4, 5]) (s := gT 4 (gsCons (gN 2) (gsCons (gN 3) (gsCons (gN 4) (gsCons (gN 5) (gsNil)))))) (t := tTrue) (f := fTup (lCons (fName 2) (lCons (toV (f2 (fSlot 3) (fSlot 1) (dAdd))) (lCons (fName 4) (lCons (fName 5) (lNil)))))) (w := [some (.tuple (cs.map eC), .sh), some (.int b, .sh), none, none, none, none]) eC (fun c => [some (.tuple (cs.map eC), .sh), some (.int b, .sh), some (.str c.name, .sh), some (.int c.beg, .sh), some (.int c.size, .sh), some (.tuple (c.rules.map eR), .sh)]) (fun _ => true) (fun c => eC (mv b c)) rfl cs fun c hn => ⟨?_, ?_, ?_, rfl⟩
    · rw [List.filter_eq_self.mpr (fun _ _ => rfl)] at e5
      exact e5
    · simp
    · simp
    · intro _
      simp [mv]
  · rw [List.length_map, sl_ok]
    omega
end Hd
namespace Hd
open PySem PySem.Spec L2 Fx
/-! ### places of callers by unwinding -/
def rightOf (cs : List Cd) (st : List Int) : Nat → Option (Int × Int × Rg) → List Int
  | 0, _ => []
  | _ + 1, none => []
  | m + 1, some (x, p, g) => match callerOf cs st x p g with
    | none => []
    | some (x', p', g') => p' :: rightOf cs st m (some (x', p', g'))
theorem right_none (cs : List Cd) (st : List Int) (n : Nat) : rightOf cs st n none = [] := by cases n <;> rfl
theorem right_stop {cs : List Cd} {st : List Int} {n : Nat} {x p : Int} {g : Rg} (h : callerOf cs st x p g = none) : rightOf cs st n (some (x, p, g)) = [] := by
  cases n with
  | zero => rfl
  | succ n => simp [rightOf, h]
def IFg (cs : List Cd) (st : List Int) (x2 x3 x4 x5 : Option (D × Fl)) (ALL : List Int) (m : Nat) (en : En) : Prop := ∃ (done : List Int) (ow : Option (Int × Int × Rg)), en = [some (.tuple (cs.map eC), .sh), some (eS st, .sh), x2, x3, x4, x5, some (.list (done.map .int), .own), some (eO ow, .sh), none] ∧ done ++ rightOf cs st m ow = ALL ∧ Vo st m ow ∧ done.length + m ≤ 2000
def fgL (st ca : List Int) (top : Nat) (right : List Int) : List Int := (gsI st ca top).filter fun p => !decide (p ∈ right)
theorem fg_len (st ca : List Int) (top : Nat) (right : List Int) : (fgL st ca top right).length ≤ top := by
  refine Nat.le_trans (List.length_filter_le _ _) ?_
  unfold gsI
  rw [List.length_map]
  exact gs_len st ca top
theorem false_guesses_eq (cs : List Cd) (hc : cs.length ≤ 1000) (h : ∀ c ∈ cs, GC c) (st ca : List Int) (hl : st.length ≤ 1000) (a : Int) (top : Nat) (ht : top ≤ st.length) (rg : Rg) (m : Nat) (v : Vo st m (some (a, (top : Int), rg))) (hm : m ≤ 2000) :
    Wp (F_false_guesses [.tuple (cs.map eC), eS st, .int a, .int top, eG rg, .tuple (ca.map .int)]) fun y => y = (.tuple ((srtI (fgL st ca top (rightOf cs st m (some (a, (top : Int), rg))))).map .int), false) := by
  show Wp (mk0 9 b_false_guesses _) _
  rw [mk0_e, wp_bind]
  show Wp (b_false_guesses [some (.tuple (cs.map eC), .sh), some (eS st, .sh), some (.int a, .sh), some (.int top, .sh), some (eG rg, .sh), some (.tuple (ca.map .int), .sh), none, none, none]) _
  unfold b_false_guesses
  simp
  refine later_i ?_
  rw [wp_sSeq]
  refine wp_mono (while_inv (IFg cs st (some (.int a, .sh)) (some (.int top, .sh)) (some (eG rg, .sh)) (some (.tuple (ca.map .int), .sh)) (rightOf cs st m (some (a, (top : Int), rg)))) (Q := fun y => y.1 = .nx ∧ ∃ x7, y.2 = [some (.tuple (cs.map eC), .sh), some (eS st, .sh), some (.int a, .sh), some (.int top, .sh), some (eG rg, .sh), some (.tuple (ca.map .int), .sh), some (.list ((rightOf cs st m (some (a, (top : Int), rg))).map .int), .own), x7, none]) ?_ m _ fuelN ?_ ?_) ?_
  · rintro n en ⟨done, ow, rfl, h1, h2, h3⟩
    cases ow with
    | none =>
      rw [right_none, List.append_nil] at h1
      subst h1
      simp [eO]
    | some z =>
      obtain ⟨x, p, g⟩ := z
      have e1 := name_for_oN cs x hc h
      obtain ⟨v1, v2, v3⟩ := h2 x p g rfl
      cases hk : codeAt cs x with
      | none =>
        have hcall : callerOf cs st x p g = none := by unfold callerOf; rw [hk]
        rw [right_stop hcall, List.append_nil] at h1
        subst h1
        rw [hk] at e1
        simp [eO, e1, oN]
      | some c =>
        cases n with
        | zero => omega
        | succ n =>
          rw [hk] at e1
          obtain ⟨y, e2, e3⟩ := caller_eq cs st x p g hc h v2
          subst e3
          have hv := vo_next h h2
          simp [eO, e1, oN, e2]
          refine later_i ?_
          cases hcall : callerOf cs st x p g with
          | none =>
            have hz : done.length ≤ 16777216 := by omega
            rw [right_stop hcall, List.append_nil] at h1
            simp [eO, hz]
            exact ⟨done, none, by simp [eO], by rw [right_none, List.append_nil]; exact h1, fun _ _ _ z => (by cases z), by omega⟩
          | some z =>
            obtain ⟨x', p', g'⟩ := z
            have hz : done.length + 1 ≤ 16777216 := by omega
            rw [hcall] at hv
            simp [eO, hz]
            refine ⟨done ++ [p'], some (x', p', g'), by simp [eO], ?_, hv, by simp; omega⟩
            rw [← h1]
            simp [rightOf, hcall]
  · exact ⟨[], some (a, (top : Int), rg), rfl, rfl, v, by simp; exact hm⟩
  · unfold fuelN; omega
  · rintro ⟨o, en⟩ ⟨e, x7, e2⟩
    dsimp only at e e2
    subst e
    subst e2
    refine later_i ?_
    generalize rightOf cs st m (some (a, (top : Int), rg)) = R
    have e0 := guesses_eq (.tuple (cs.map eC)) st ca top ht hl
    have gl := fg_len st ca top R
    have e5 := lc_typ (vs := [8]) (s := gN 8) (t := tB1 (f2 (fSlot 8) (fSlot 6) (dNotIn))) (f := fName 8) (w := [some (.tuple (cs.map eC), .sh), some (eS st, .sh), some (.int a, .sh), some (.int top, .sh), some (eG rg, .sh), some (.tuple (ca.map .int), .sh), some (.list (R.map .int), .own), x7, none]) PyData.int (fun p => [some (.tuple (cs.map eC), .sh), some (eS st, .sh), some (.int a, .sh), some (.int top, .sh), some (eG rg, .sh), some (.tuple (ca.map .int), .sh), some (.list (R.map .int), .own), x7, some (.int p, .sh)]) (fun p => !decide (p ∈ R)) PyData.int rfl (gsI st ca top) fun p hp => ⟨by simp, by simp, fun _ => by simp, rfl⟩
    have e6 := flc_eq (it := itV (toV (fCall 4 (lCons (fName 0) (lCons (fName 1) (lCons (fName 3) (lCons (fName 5) (lNil))))) F_guesses))) (en := [some (.tuple (cs.map eC), .sh), some (eS st, .sh), some (.int a, .sh), some (.int top, .sh), some (eG rg, .sh), some (.tuple (ca.map .int), .sh), some (.list (R.map .int), .own), x7, none]) (by rw [e_itV]; simp [e0]; exact ⟨rfl, rfl⟩) e5 (by rw [List.length_map, sl_ok]; exact Nat.le_trans gl (by omega))
    have e7 := dSort_lI (ns := fgL st ca top R) (by omega)
    simp [e6, backE]
    rw [show (gsI st ca top).filter (fun p => !decide (p ∈ R)) = fgL st ca top R from rfl, e7]
    simp
end Hd
namespace Hd
open PySem PySem.Spec L2 Fx
/-! ### spots of codes -/
def rgI (i j : Int) : List Int := (List.range (j - i).toNat).map fun n => i + (n : Nat)
theorem rgI_D (i j : Int) : rgD i j = (rgI i j).map .int := rgD_map i j
theorem rgI_mem {i j a : Int} : a ∈ rgI i j ↔ i ≤ a ∧ a < j := by
  unfold rgI
  simp only [List.mem_map, List.mem_range]
  constructor
  · rintro ⟨n, h, rfl⟩
    omega
  · rintro ⟨h1, h2⟩
    exact ⟨(a - i).toNat, by omega, by omega⟩
theorem rgI_lt (i j : Int) : (rgI i j).Pairwise (· < ·) := by
  unfold rgI
  rw [List.pairwise_map]
  exact List.pairwise_lt_range.imp fun h => by omega
def cdR (c : Cd) : List Int := rgI c.beg (c.beg + c.size)
def spI (cs : List Cd) : List Int := (cs.map cdR).flatten
theorem cdR_len {c : Cd} (h : GC c) : (cdR c).length ≤ 5 := by
  have := h.s2
  unfold cdR rgI
  rw [List.length_map, List.length_range]
  omega
theorem spI_mem {cs : List Cd} {a : Int} : a ∈ spI cs ↔ ∃ c ∈ cs, c.beg ≤ a ∧ a < c.beg + c.size := by
  unfold spI
  simp only [List.mem_flatten, List.mem_map]
  constructor
  · rintro ⟨_, ⟨c, hc, rfl⟩, h⟩
    exact ⟨c, hc, rgI_mem.mp h⟩
  · rintro ⟨c, hc, h⟩
    exact ⟨_, ⟨c, hc, rfl⟩, rgI_mem.mpr h⟩
theorem spI_len : ∀ {cs : List Cd}, (∀ c ∈ cs, GC c) → (spI cs).length ≤ 5 * cs.length
  | [], _ => Nat.le_refl _
  | c :: cs, h => by
    have h1 := cdR_len (h c (List.mem_cons_self ..))
    have h2 := spI_len fun d hd => h d (List.mem_cons_of_mem _ hd)
    show (cdR c ++ spI cs).length ≤ _
    rw [List.length_append, List.length_cons]
    omega
theorem spI_lt : ∀ {cs : List Cd}, (∀ c ∈ cs, GC c) → Pw cs → (spI cs).Pairwise (· < ·)
  | [], _, _ => .nil
  | c :: cs, h, p => by
    obtain ⟨p1, p2⟩ := List.pairwise_cons.mp p
    show (cdR c ++ spI cs).Pairwise _
    refine List.pairwise_append.mpr ⟨rgI_lt _ _, spI_lt (fun d hd => h d (List.mem_cons_of_mem _ hd)) p2, fun a ha b hb => ?_⟩
    obtain ⟨_, a2⟩ := rgI_mem.mp ha
    obtain ⟨d, hd, b1, _⟩ := spI_mem.mp hb
    have := p1 d hd
    omega
theorem spI_bd {cs : List Cd} (h : ∀ c ∈ cs, GC c) {a : Int} (ha : a ∈ spI cs) : 1 ≤ a ∧ a ≤ 44 := by
  obtain ⟨c, hc, h1, h2⟩ := spI_mem.mp ha
  have g := h c hc
  have := g.b1
  have := g.b2
  have := g.s2
  omega
/-! ### how far codes can be moved -/
def offP (cs : List Cd) (asked : List Int) (b : Int) : Bool := asked.all fun a => decide (a - b ∈ spI cs)
def offL (cs : List Cd) (a0 : Int) (asked : List Int) : List Int := (srtI ((spI cs).map fun s => a0 - s)).filter (offP cs asked)
theorem rng2 (i j : Int) (h : inLine i = true) (h2 : inLine j = true) : range2D [.int i, .int j] = some ((rgI i j).map .int) := by
  show (if (inLine i && inLine j) = true then _ else _) = _
  rw [h, h2]
  unfold rgI rngD
  simp only [Bool.and_self, if_true, Int.mul_one, List.map_map]
  rfl
theorem bools_map {α : Type} (f : α → Bool) : ∀ l : List α, boolsD (l.map fun a => .bool (f a)) = some (l.map f)
  | [] => rfl
  | a :: l => by
    show (boolsD (l.map fun a => .bool (f a))).map _ = _
    rw [bools_map f l]
    rfl
theorem all_map {α : Type} (f : α → Bool) (l : List α) : dAll [.list (l.map fun a => .bool (f a))] = some (.bool (l.all f), false) := by
  show (boolsD (l.map fun a => .bool (f a))).map _ = _
  rw [bools_map]
  simp
theorem offsets_eq (cs : List Cd) (hc : cs.length ≤ 100) (h : ∀ c ∈ cs, GC c) (a0 : Int) (as : List Int) (hl : as.length ≤ 100) :
    F_offsets_for [.tuple (cs.map eC), .tuple ((a0 :: as).map .int)] = some (.tuple ((offL cs a0 (a0 :: as)).map .int), false) := by
  unfold F_offsets_for b_offsets_for
  rw [mk0_e]
  show Option.bind (sSeq _ _ [some (.tuple (cs.map eC), .sh), some (.tuple ((a0 :: as).map .int), .sh), none, none, none, none, none, none, none, none]) _ = _
  have sl := spI_len h
  rw [e_sSeq, e_sSet, flc2_eq (ds := cs.map eC) (rs := (spI cs).map .int) (en1 := [some (.tuple (cs.map eC), .sh), some (.tuple ((a0 :: as).map .int), .sh), none, none, none, none, none, none, none, none]) (en2 := [some (.tuple (cs.map eC), .sh), some (.tuple ((a0 :: as).map .int), .sh), none, none, none, none, none, none, none, none]) ?_ ?_ ?_]
  · simp only [Option.bind_some, backE, List.getElem?_cons_succ, List.getElem?_cons_zero, List.set_cons_succ, List.set_cons_zero, free_cons, free_none, if_true, flag_t]
    rw [e_sSeq, e_sSet, flc_eq (ds := (spI cs).map .int) (rs := ((spI cs).map fun s => a0 - s).map .int) (en1 := [some (.tuple (cs.map eC), .sh), some (.tuple ((a0 :: as).map .int), .sh), some (.list ((spI cs).map .int), .sh), none, none, none, none, none, none, none]) (en2 := [some (.tuple (cs.map eC), .sh), some (.tuple ((a0 :: as).map .int), .sh), some (.list ((spI cs).map .int), .sh), none, none, none, none, none, none, none]) ?_ ?_ ?_]
    · simp only [Option.bind_some, backE, List.getElem?_cons_succ, List.getElem?_cons_zero, List.set_cons_succ, List.set_cons_zero, free_cons, free_none, if_true, flag_t]
      have e7 := dSort_lI (ns := (spI cs).map fun s => a0 - s) (by rw [List.length_map]; omega)
      have ol : (srtI ((spI cs).map fun s => a0 - s)).length ≤ 500 := by
        rw [(srtI_perm _).length_eq, List.length_map]
        omega
      rw [e_sRet, e_fN, e_aCons, e_toO, flc_eq (ds := (srtI ((spI cs).map fun s => a0 - s)).map .int) (rs := (offL cs a0 (a0 :: as)).map .int) (en1 := [some (.tuple (cs.map eC), .sh), some (.tuple ((a0 :: as).map .int), .sh), some (.list ((spI cs).map .int), .sh), none, none, none, none, some (.list (((spI cs).map fun s => a0 - s).map .int), .own), none, none]) (en2 := [some (.tuple (cs.map eC), .sh), some (.tuple ((a0 :: as).map .int), .sh), some (.list ((spI cs).map .int), .sh), none, none, none, none, some (.list (((spI cs).map fun s => a0 - s).map .int), .own), none, none]) ?_ ?_ ?_]
      · simp [backE]
      · rw [e_itV]
        simp only [e_toV, e_fN, e_aCons, e_aNil, e_fSlot, peek_s, peek_0, Option.map_some, Option.bind_some, lates_cons, lates_nil, late_slot, e7, seqD_l]
      · refine lc_typ PyData.int (fun b => [some (.tuple (cs.map eC), .sh), some (.tuple ((a0 :: as).map .int), .sh), some (.list ((spI cs).map .int), .sh), none, none, none, none, some (.list (((spI cs).map fun s => a0 - s).map .int), .own), some (.int b, .sh), none]) (offP cs (a0 :: as)) PyData.int rfl _ fun b hb => ⟨?_, ?_, ?_, rfl⟩
        · simp [wipeE]
        · have e5 := lc_typ (vs := [9]) (s := gN 9) (t := tTrue) (f := toV (f2 (toO (f2 (fSlot 9) (fSlot 8) (isI iSub))) (fSlot 2) (dIn))) (w := [some (.tuple (cs.map eC), .sh), some (.tuple ((a0 :: as).map .int), .sh), some (.list ((spI cs).map .int), .sh), none, none, none, none, some (.list (((spI cs).map fun s => a0 - s).map .int), .own), some (.int b, .sh), none]) PyData.int (fun a => [some (.tuple (cs.map eC), .sh), some (.tuple ((a0 :: as).map .int), .sh), some (.list ((spI cs).map .int), .sh), none, none, none, none, some (.list (((spI cs).map fun s => a0 - s).map .int), .own), some (.int b, .sh), some (.int a, .sh)]) (fun _ => true) (fun a => .bool (decide (a - b ∈ spI cs))) rfl (a0 :: as) fun a ha => ⟨by simp, by simp, fun _ => by simp, rfl⟩
          rw [List.filter_eq_self.mpr (fun _ _ => rfl)] at e5
          have e6 := flc_eq (ds := (a0 :: as).map PyData.int) (it := itV (fName 1)) (en := [some (.tuple (cs.map eC), .sh), some (.tuple ((a0 :: as).map .int), .sh), some (.list ((spI cs).map .int), .sh), none, none, none, none, some (.list (((spI cs).map fun s => a0 - s).map .int), .own), some (.int b, .sh), none]) (en1 := [some (.tuple (cs.map eC), .sh), some (.tuple ((a0 :: as).map .int), .sh), some (.list ((spI cs).map .int), .sh), none, none, none, none, some (.list (((spI cs).map fun s => a0 - s).map .int), .own), some (.int b, .sh), none]) (by rw [e_itV]; simp) e5 (by rw [List.length_map, sl_ok, List.length_cons]; omega)
          have e8 := all_map (fun a => decide (a - b ∈ spI cs)) (a0 :: as)
          simp only [e_tB1, e_fN, e_aCons, e_toO, e6, e_aNil, Option.map_some, Option.bind_some, lates_cons, lates_nil, late_tv, e8, backE, List.getElem?_cons_succ, List.getElem?_cons_zero, List.set_cons_succ, List.set_cons_zero]
          rfl
        · intro _
          simp
      · rw [List.length_map, sl_ok]
        have := List.length_filter_le (offP cs (a0 :: as)) (srtI ((spI cs).map fun s => a0 - s))
        unfold offL
        omega
    · rw [e_itV]
      simp
    · have e5 := lc_typ (vs := [6]) (s := gN 6) (t := tTrue) (f := toV (f2 (toO (f2 (fSlot 1) (svO (fC (.int 0))) dIxA)) (fSlot 6) (isI iSub))) (w := [some (.tuple (cs.map eC), .sh), some (.tuple ((a0 :: as).map .int), .sh), some (.list ((spI cs).map .int), .sh), none, none, none, none, none, none, none]) PyData.int (fun a => [some (.tuple (cs.map eC), .sh), some (.tuple ((a0 :: as).map .int), .sh), some (.list ((spI cs).map .int), .sh), none, none, none, some (.int a, .sh), none, none, none]) (fun _ => true) (fun a => .int (a0 - a)) rfl (spI cs) fun a ha => ⟨by simp, by simp, fun _ => by simp, rfl⟩
      rw [List.filter_eq_self.mpr (fun _ _ => rfl)] at e5
      rw [List.map_map]
      exact e5
    · rw [List.length_map, List.length_map, sl_ok]
      omega
  · rw [e_itV]
    simp
  · have e9 := lcO_typ (vs := [3, 4, 5, 6]) (vs1 := [6]) (s := gT 4 (gsCons (gN 3) (gsCons (gN 4) (gsCons (gN 5) (gsCons (gN 3) (gsNil)))))) (t := tTrue) (it1 := itR (aCons (fSlot 4) (aCons (toO (f2 (fSlot 4) (fSlot 5) (dAdd))) (aNil))) range2D) (s1 := gN 6) (t1 := tTrue) (f := fName 6) (w := [some (.tuple (cs.map eC), .sh), some (.tuple ((a0 :: as).map .int), .sh), none, none, none, none, none, none, none, none]) eC (fun c => (cdR c).map .int) cs fun c hc' => by
      have g := h c hc'
      have g1 := g.b1
      have g2 := g.b2
      have g3 := g.s1
      have g4 := g.s2
      have er := rng2 c.beg (c.beg + c.size) (inLine_le (by omega) (by omega)) (inLine_le (by omega) (by omega))
      have e5 := lc_typ (vs := [6]) (s := gN 6) (t := tTrue) (f := fName 6) (w := [some (.tuple (cs.map eC), .sh), some (.tuple ((a0 :: as).map .int), .sh), none, some (.tuple (c.rules.map eR), .sh), some (.int c.beg, .sh), some (.int c.size, .sh), none, none, none, none]) PyData.int (fun a => [some (.tuple (cs.map eC), .sh), some (.tuple ((a0 :: as).map .int), .sh), none, some (.tuple (c.rules.map eR), .sh), some (.int c.beg, .sh), some (.int c.size, .sh), some (.int a, .sh), none, none, none]) (fun _ => true) PyData.int rfl (cdR c) fun a ha => ⟨by simp, by simp, fun _ => by simp, rfl⟩
      rw [List.filter_eq_self.mpr (fun _ _ => rfl)] at e5
      refine ⟨[some (.tuple (cs.map eC), .sh), some (.tuple ((a0 :: as).map .int), .sh), none, some (.tuple (c.rules.map eR), .sh), some (.int c.beg, .sh), some (.int c.size, .sh), none, none, none, none], ((cdR c).map .int, [some (.tuple (cs.map eC), .sh), some (.tuple ((a0 :: as).map .int), .sh), none, some (.tuple (c.rules.map eR), .sh), some (.int c.beg, .sh), some (.int c.size, .sh), none, none, none, none]), _, ?_, ?_, ?_, e5, rfl⟩
      · simp [wipeE]
      · rfl
      · rw [e_itR]
        simp only [e_aCons, e_fSlot, e_aNil, peek_s, peek_0, e_toO, e_f2, Option.map_some, Option.bind_some, lates_cons, lates_nil, late_slot, late_tv, dAdd_ii, er]
        rfl
    rw [show (spI cs).map PyData.int = ((cs.map fun c => (cdR c).map PyData.int)).flatten from by unfold spI; rw [List.map_flatten, List.map_map]; rfl]
    exact e9
  · rw [List.length_map, sl_ok]
    omega
/-- the law's own list of them -/
def offQ (cs : List Cd) (asked : List Int) (b : Int) : Bool := (asked.filter fun a => !decide (a - b ∈ spI cs)).isEmpty
theorem offQ_eq (cs : List Cd) (asked : List Int) (b : Int) : offQ cs asked b = offP cs asked b := by
  unfold offQ offP
  rw [Bool.eq_iff_iff, List.isEmpty_iff, List.filter_eq_nil_iff, List.all_eq_true]
  simp
theorem off_same {cs : List Cd} (h : ∀ c ∈ cs, GC c) (p : Pw cs) {a0 : Int} {as : List Int} {shift : Int} (h1 : -5 ≤ shift) (h2 : shift ≤ 6) (h3 : a0 - shift ∈ spI cs) : offL cs a0 (a0 :: as) = (rgI (-60) 61).filter (offQ cs (a0 :: as)) := by
  have nd : ((spI cs).map fun s => a0 - s).Nodup := by
    refine (spI_lt h p).map _ ?_ |>.imp fun {a b} (z : a > b) => ?_
    · intro a b hab
      show a0 - a > a0 - b
      omega
    · omega
  refine lt_uniq ((srtI_lt nd).filter _) ((rgI_lt _ _).filter _) fun k => ?_
  unfold offL
  rw [List.mem_filter, List.mem_filter, srtI_mem, rgI_mem, offQ_eq]
  constructor
  · rintro ⟨hm, hp⟩
    obtain ⟨s, hs, rfl⟩ := List.mem_map.mp hm
    have b1 := spI_bd h hs
    have b2 := spI_bd h h3
    exact ⟨by omega, hp⟩
  · rintro ⟨_, hp⟩
    refine ⟨List.mem_map.mpr ⟨a0 - k, ?_, by omega⟩, hp⟩
    have := List.all_eq_true.mp hp a0 (List.mem_cons_self ..)
    simpa using this
theorem off_shift {cs : List Cd} {asked : List Int} {shift : Int} (h1 : -5 ≤ shift) (h2 : shift ≤ 6) (h3 : ∀ a ∈ asked, a - shift ∈ spI cs) : shift ∈ (rgI (-60) 61).filter (offQ cs asked) := by
  rw [List.mem_filter, rgI_mem, offQ_eq]
  exact ⟨by omega, List.all_eq_true.mpr fun a ha => decide_eq_true (h3 a ha)⟩
end Hd
namespace Hd
open PySem PySem.Spec L2 Fx

def ISpL (SP : List Int) (C : Option (D × Fl)) (x0 x1 x2 x9 x10 x11 x12 x13 x14 x15 x16 x17 x18 x19 x20 x21 x22 x23 x24 x25 x26 x27 : Option (D × Fl)) (ds : List D) (en : En) : Prop := ∃ (cs : List Cd) (sp : List Int) (y5 y6 y7 y8 : Option (D × Bool)), ds = cs.map eC ∧ (∀ c ∈ cs, GC c) ∧ en = [x0, x1, x2, C, some (.list (sp.map .int), .own), jk y5, jk y6, jk y7, jk y8, x9, x10, x11, x12, x13, x14, x15, x16, x17, x18, x19, x20, x21, x22, x23, x24, x25, x26, x27] ∧ sp ++ spI cs = SP ∧ sp.length + 5 * cs.length ≤ 1000
theorem spots_ok (SP : List Int) (C : Option (D × Fl)) (x0 x1 x2 x9 x10 x11 x12 x13 x14 x15 x16 x17 x18 x19 x20 x21 x22 x23 x24 x25 x26 x27 : Option (D × Fl)) (ds : List D) (en : En) (h : ISpL SP C x0 x1 x2 x9 x10 x11 x12 x13 x14 x15 x16 x17 x18 x19 x20 x21 x22 x23 x24 x25 x26 x27 ds en) : Wp (forL (gT 4 (gsCons (gN 5) (gsCons (gN 6) (gsCons (gN 7) (gsCons (gN 8) (gsNil)))))) (sSet 4 (f2 (fSlot 4) (toO (fLr2 (fName 6) (toV (f2 (fSlot 6) (fSlot 7) (dAdd))))) (dAdd))) ds en) fun y => y.1 = .nx ∧ ISpL SP C x0 x1 x2 x9 x10 x11 x12 x13 x14 x15 x16 x17 x18 x19 x20 x21 x22 x23 x24 x25 x26 x27 [] y.2 := by
  refine for_inv (ISpL SP C x0 x1 x2 x9 x10 x11 x12 x13 x14 x15 x16 x17 x18 x19 x20 x21 x22 x23 x24 x25 x26 x27) ?_ ?_ _ _ h
  · rintro d r en ⟨cs, sp, y5, y6, y7, y8, e1, h1, rfl, h2, h3⟩
    cases cs with
    | nil => cases e1
    | cons c cs =>
      rw [List.map_cons] at e1
      cases e1
      rw [List.length_cons] at h3
      have g := h1 c (List.mem_cons_self ..)
      have g1 := g.b1
      have g2 := g.b2
      have g3 := g.s1
      have g4 := g.s2
      have hr : rgOk c.beg (c.beg + c.size) = true := rgOk_le (by omega) (by omega) (by omega) (by omega)
      have hl := cdR_len g
      have hz : sp.length + (rgD c.beg (c.beg + c.size)).length ≤ 16777216 := by
        rw [rgI_D, List.length_map]
        unfold cdR at hl
        omega
      simp [hr, hz, -rgOk_n]
      refine ⟨cs, sp ++ cdR c, some (.str c.name, false), some (.int c.beg, false), some (.int c.size, false), some (.tuple (c.rules.map eR), false), rfl, fun c' hc' => h1 c' (List.mem_cons_of_mem _ hc'), by rw [rgI_D, List.map_append]; rfl, ?_, ?_⟩
      · rw [← h2]
        unfold spI
        simp
      · rw [List.length_append]
        omega
  · intro en h
    exact ⟨rfl, h⟩

def ICa (dr sp : List Int) (x0 x2 x3 x5 x6 x7 x8 x9 x10 x11 x12 x13 x15 x16 x17 x18 x19 x20 x21 x22 x23 x24 x25 x26 x27 : Option (D × Fl)) (m : Nat) (ds acc : List D) (w : En) : Prop := ∃ (l r : List Int) (n : Nat), ds = r.map PyData.int ∧ acc = l.map PyData.int ∧ l.length + r.length ≤ m ∧ w = [x0, some (eW dr n, .own), x2, x3, some (.list (sp.map .int), .sh), x5, x6, x7, x8, x9, x10, x11, x12, x13, none, x15, x16, x17, x18, x19, x20, x21, x22, x23, x24, x25, x26, x27]
theorem calls_ok {dr : List Int} (hd : Ok997 dr) (n : Nat) (sp : List Int) (hl : sp.length ≤ 50) (x0 x2 x3 x5 x6 x7 x8 x9 x10 x11 x12 x14 x15 x16 x17 x18 x19 x20 x21 x22 x23 x24 x25 x26 x27 : Option (D × Fl)) (y13 : Option (D × Bool)) : Wp (sSet 13 (fN (aCons (toO (fN (aCons (toO (f2 (toO (fLc [14] (itV (fName 4)) (gN 14) (tB1 (f2 (toO (fCallW 1 1 (lCons (fC (.int 2)) (lNil)) F__law_next)) (svO (fC (.int 0))) (dEq))) (fName 14))) (toO (fLst (lCons (toV (fCallW 1 1 (lCons (fC (.int 30)) (lNil)) F__law_next)) (lNil)))) (dAdd))) (aNil)) dSortSet)) (aNil)) dTuple) [x0, some (eW dr n, .own), x2, x3, some (.list (sp.map .int), .own), x5, x6, x7, x8, x9, x10, x11, x12, jk y13, x14, x15, x16, x17, x18, x19, x20, x21, x22, x23, x24, x25, x26, x27]) fun y => ∃ (ca : List Int) (n' : Nat), y = (.nx, [x0, some (eW dr n', .own), x2, x3, some (.list (sp.map .int), .sh), x5, x6, x7, x8, x9, x10, x11, x12, some (.tuple (ca.map .int), .sh), x14, x15, x16, x17, x18, x19, x20, x21, x22, x23, x24, x25, x26, x27]) := by
  rw [e_sSet, wp_bind, e_fN, wp_bind, e_aCons, wp_bind, e_toO, wp_map, e_fN, wp_bind, e_aCons, wp_bind, e_toO, wp_map, e_f2, wp_bind, e_toO, wp_map]
  refine flc_wp ?_
  rw [wp_itV]
  simp only [e_fName, List.getElem?_cons_succ, List.getElem?_cons_zero, wp_some, seqD_l, List.set_cons_succ, List.set_cons_zero, wipeE_cons, wipeE_nil]
  refine wp_mono (lc_inv (ICa dr sp x0 x2 x3 x5 x6 x7 x8 x9 x10 x11 x12 (jk y13) x15 x16 x17 x18 x19 x20 x21 x22 x23 x24 x25 x26 x27 sp.length) ?_ _ [] _ ⟨[], sp, n, rfl, rfl, by simp, rfl⟩) ?_
  · rintro d r acc w ⟨l, r', n, e1, rfl, h, rfl⟩
    cases r' with
    | nil => cases e1
    | cons a r' =>
      rw [List.map_cons] at e1
      cases e1
      rw [List.length_cons] at h
      obtain ⟨v, v0, v1, e⟩ := next_ex hd n 2 (by omega)
      by_cases hv : v = 0
      · subst hv
        simp [e]
        exact ⟨l ++ [a], r', n + 1, rfl, by simp, by simp; omega, rfl⟩
      · simp [e, hv]
        exact ⟨l, r', n + 1, rfl, rfl, by omega, rfl⟩
  · rintro ⟨rs, w⟩ ⟨l, r, n2, e1, e2, e3, e4⟩
    rw [List.nil_append] at e2
    dsimp only at e2 e4
    subst e2
    subst e4
    have hz : l.length ≤ 16777216 := by omega
    have hz1 : l.length + 1 ≤ 16777216 := by omega
    obtain ⟨v, v0, v1, e⟩ := next_ex hd n2 30 (by omega)
    have es := dSortSet_lI (ns := l ++ [v]) (by simp; omega) (Nat.lt_of_le_of_lt (setI_len _) (by simp; omega))
    rw [List.map_append] at es
    simp only [List.map_cons, List.map_nil] at es
    refine ⟨by rw [List.length_map, sl_ok]; exact hz, ?_⟩
    simp [backE, e, hz1, es]
    exact ⟨⟨_, rfl⟩, _, rfl⟩

theorem due_list (p : Nat → Bool) (L top : Nat) (h : top ≤ L) : (List.range L).filter (fun n => decide (n < top) && p n) = (List.range top).filter p := by
  obtain ⟨k, rfl⟩ : ∃ k, L = top + k := ⟨L - top, by omega⟩
  have e : ((List.range k).map (top + ·)).filter (fun n => decide (n < top) && p n) = [] := List.filter_eq_nil_iff.mpr fun n hn => by
    obtain ⟨j, _, rfl⟩ := List.mem_map.mp hn
    rw [decide_eq_false (by omega), Bool.false_and]
    exact fun z => by cases z
  rw [List.range_add, List.filter_append, e, List.append_nil]
  refine List.filter_congr fun n hn => ?_
  rw [decide_eq_true (List.mem_range.mp hn), Bool.true_and]
theorem due_gs (st ca : List Int) (top : Nat) (h : top ≤ st.length) : ((List.range st.length).filter (fun n => decide (n < top) && gsP st ca n)).reverse = gsN st ca top := by
  rw [due_list _ _ _ h, ← List.filter_reverse]
  rfl
theorem due_ok (st ca : List Int) (top : Nat) (ht : top ≤ st.length) (hl : st.length ≤ 1000) (x0 x1 x2 x3 x4 x5 x6 x7 x8 x10 x12 x14 x16 x17 x18 x19 x20 x21 x22 x23 x24 x25 x26 x27 : Option (D × Fl)) (y15 : Option (D × Bool)) : Wp (sSet 15 (f1 (toO (fLc [16] (itR (aCons (toO (fN (aCons (fSlot 9) (aNil)) dLen)) (aNil)) range1D) (gN 16) (tAndF (tB1 (f2 (fSlot 16) (fSlot 11) (isI iLt))) (tB1 (f2 (toO (f2 (toO (f2 (fSlot 9) (fSlot 16) dIxA)) (svO (fC (.int 1))) (isI iSub))) (fSlot 13) (dIn)))) (fName 16))) dRev) [x0, x1, x2, x3, x4, x5, x6, x7, x8, some (eS st, .sh), x10, some (.int (top : Nat), .sh), x12, some (.tuple (ca.map .int), .sh), x14, jk y15, x16, x17, x18, x19, x20, x21, x22, x23, x24, x25, x26, x27]) fun y => y = (.nx, [x0, x1, x2, x3, x4, x5, x6, x7, x8, some (eS st, .sh), x10, some (.int (top : Nat), .sh), x12, some (.tuple (ca.map .int), .sh), x14, some (.list ((gsI st ca top).map .int), .own), x16, x17, x18, x19, x20, x21, x22, x23, x24, x25, x26, x27]) := by
  have e1 := range1_nat (n := st.length) (by omega)
  have e5 := lc_typ (vs := [16]) (s := gN 16) (t := (tAndF (tB1 (f2 (fSlot 16) (fSlot 11) (isI iLt))) (tB1 (f2 (toO (f2 (toO (f2 (fSlot 9) (fSlot 16) dIxA)) (svO (fC (.int 1))) (isI iSub))) (fSlot 13) (dIn))))) (f := fName 16) (w := [x0, x1, x2, x3, x4, x5, x6, x7, x8, some (eS st, .sh), x10, some (.int (top : Nat), .sh), x12, some (.tuple (ca.map .int), .sh), x14, jk y15, none, x17, x18, x19, x20, x21, x22, x23, x24, x25, x26, x27]) (fun n : Nat => PyData.int (n : Int)) (fun n : Nat => [x0, x1, x2, x3, x4, x5, x6, x7, x8, some (eS st, .sh), x10, some (.int (top : Nat), .sh), x12, some (.tuple (ca.map .int), .sh), x14, jk y15, some (.int n, .sh), x17, x18, x19, x20, x21, x22, x23, x24, x25, x26, x27]) (fun n => decide (n < top) && gsP st ca n) (fun n : Nat => PyData.int (n : Int)) rfl (List.range st.length) fun n hn => ⟨by simp, by
    have hn' := List.mem_range.mp hn
    have e2 := at_st st n (by omega) (by omega)
    by_cases hlt : n < top
    · simp [hlt, eS_e, e2, gsP]
    · simp [hlt], fun _ => by simp, rfl⟩
  have e6 := flc_eq (it := (itR (aCons (toO (fN (aCons (fSlot 9) (aNil)) dLen)) (aNil)) range1D)) (en := [x0, x1, x2, x3, x4, x5, x6, x7, x8, some (eS st, .sh), x10, some (.int (top : Nat), .sh), x12, some (.tuple (ca.map .int), .sh), x14, jk y15, x16, x17, x18, x19, x20, x21, x22, x23, x24, x25, x26, x27]) (en1 := [x0, x1, x2, x3, x4, x5, x6, x7, x8, some (eS st, .sh), x10, some (.int (top : Nat), .sh), x12, some (.tuple (ca.map .int), .sh), x14, jk y15, x16, x17, x18, x19, x20, x21, x22, x23, x24, x25, x26, x27]) (ds := (List.range st.length).map fun n : Nat => PyData.int (n : Int)) (itR_at (hs := [.tv (.int st.length)]) (by simp [eS_e]) rfl (by rw [← rng_nil]; exact e1)) e5 (by
    rw [List.length_map, sl_ok]
    refine Nat.le_trans (List.length_filter_le _ _) ?_
    rw [List.length_range]
    omega)
  have e7 := due_gs st ca top ht
  simp [e6, backE]
  rw [gs_D, ← e7, List.map_reverse]

end Hd
namespace Hd
open PySem PySem.Spec L2 Fx

theorem names_ok (cs : List Cd) (hc : cs.length ≤ 1000) (h : ∀ c ∈ cs, GC c) (st ca : List Int) (top : Nat) (ht : top ≤ st.length) (hl : st.length ≤ 1000) (x0 x1 x2 x4 x5 x6 x7 x8 x10 x11 x12 x13 x14 x16 x18 x19 x20 x21 x22 x23 x24 x25 x26 x27 : Option (D × Fl)) (y17 : Option (D × Bool)) : Wp (sSet 17 (fLc [16] (itV (fName 15)) (gN 16) (tTrue) (toV (fCall 2 (lCons (fName 3) (lCons (toV (f2 (fSlot 9) (fSlot 16) dIxA)) (lNil))) F__law_code_at))) [x0, x1, x2, some (.tuple (cs.map eC), .sh), x4, x5, x6, x7, x8, some (eS st, .sh), x10, x11, x12, x13, x14, some (.list ((gsI st ca top).map .int), .own), x16, jk y17, x18, x19, x20, x21, x22, x23, x24, x25, x26, x27]) fun y => y = (.nx, [x0, x1, x2, some (.tuple (cs.map eC), .sh), x4, x5, x6, x7, x8, some (eS st, .sh), x10, x11, x12, x13, x14, some (.list ((gsI st ca top).map .int), .sh), x16, some (.list ((gsN st ca top).map fun n : Nat => oC (codeAt cs (stAt st n))), .own), x18, x19, x20, x21, x22, x23, x24, x25, x26, x27]) := by
  have gl := gs_len st ca top
  have e5 := lc_typ (vs := [16]) (s := gN 16) (t := tTrue) (f := (toV (fCall 2 (lCons (fName 3) (lCons (toV (f2 (fSlot 9) (fSlot 16) dIxA)) (lNil))) F__law_code_at))) (w := [x0, x1, x2, some (.tuple (cs.map eC), .sh), x4, x5, x6, x7, x8, some (eS st, .sh), x10, x11, x12, x13, x14, some (.list ((gsI st ca top).map .int), .sh), none, jk y17, x18, x19, x20, x21, x22, x23, x24, x25, x26, x27]) (fun n : Nat => PyData.int (n : Int)) (fun n : Nat => [x0, x1, x2, some (.tuple (cs.map eC), .sh), x4, x5, x6, x7, x8, some (eS st, .sh), x10, x11, x12, x13, x14, some (.list ((gsI st ca top).map .int), .sh), some (.int n, .sh), jk y17, x18, x19, x20, x21, x22, x23, x24, x25, x26, x27]) (fun _ => true) (fun n : Nat => oC (codeAt cs (stAt st n))) rfl (gsN st ca top) fun n hn => ⟨by simp, by simp, fun _ => by
    have hn' := gs_lt hn
    have e2 := at_st st n (by omega) (by omega)
    have e3 := code_at_eq cs (stAt st n) hc h
    simp [eS_e, e2, e3], rfl⟩
  rw [List.filter_eq_self.mpr (fun _ _ => rfl), ← gs_D] at e5
  have e6 := flc_eq (it := itV (fName 15)) (en := [x0, x1, x2, some (.tuple (cs.map eC), .sh), x4, x5, x6, x7, x8, some (eS st, .sh), x10, x11, x12, x13, x14, some (.list ((gsI st ca top).map .int), .own), x16, jk y17, x18, x19, x20, x21, x22, x23, x24, x25, x26, x27]) (en1 := [x0, x1, x2, some (.tuple (cs.map eC), .sh), x4, x5, x6, x7, x8, some (eS st, .sh), x10, x11, x12, x13, x14, some (.list ((gsI st ca top).map .int), .sh), x16, jk y17, x18, x19, x20, x21, x22, x23, x24, x25, x26, x27]) (by rw [e_itV]; simp) e5 (by rw [List.length_map, sl_ok]; omega)
  simp [e6, backE]

theorem sh_strs {k : Nat} {zs : List Str} (h : ∀ z ∈ zs, PyData.strOk z = true) : ∀ d ∈ zs.map PyData.str, Sh k d := fun d hd => by
  obtain ⟨z, hz, rfl⟩ := List.mem_map.mp hd
  exact Sh.mono (Sh.str z (h z hz)) (Nat.zero_le _)
theorem nm_ok {c : Cd} (h : GC c) : PyData.strOk c.name = true := by
  rcases h.nm with e | e | e <;> rw [e]
  · exact ok_f_
  · exact ok_g_
  · exact ok_h_
theorem nmS_ok {cs : List Cd} (h : ∀ c ∈ cs, GC c) (st : List Int) (ns : List Nat) : ∀ z ∈ nmS cs st ns, PyData.strOk z = true := fun z hz => by
  obtain ⟨n, hn, rfl⟩ := List.mem_map.mp hz
  have hs := (List.mem_filter.mp hn).2
  cases hk : codeAt cs (stAt st n) with
  | none => rw [hk] at hs; cases hs
  | some c => exact nm_ok (h c (code_mem hk))
theorem if7_ok (cs : List Cd) (hc : cs.length ≤ 1000) (h : ∀ c ∈ cs, GC c) (st ca : List Int) (top : Nat) (ht : top ≤ st.length) (hl : st.length ≤ 1000) (x0 x1 x2 x4 x5 x6 x7 x8 x10 x12 x14 x16 x18 x19 x20 x21 x22 x23 x24 x25 x26 x27 : Option (D × Fl)) : Wp (sIf (tOrF (tB1 (f2 (toO (fCall 4 (lCons (fName 3) (lCons (fName 9) (lCons (fName 11) (lCons (fName 13) (lNil))))) F_guesses)) (toO (fN (aCons (fSlot 15) (aNil)) dTuple)) (dNe))) (tB1 (f2 (toO (fCall 4 (lCons (fName 3) (lCons (fName 9) (lCons (fName 11) (lCons (fName 13) (lNil))))) F_guessed_names)) (toO (fN (aCons (toO (fLc [18] (itV (fName 17)) (gN 18) (tB1 (fIs (fSlot 18) (fun d => !isND d))) (toV (f2 (fSlot 18) (svO (fC (.int 0))) dIxA)))) (aNil)) dTuple)) (dNe)))) (sRet (ofV (fC (.bool false)))) (sNx) [x0, x1, x2, some (.tuple (cs.map eC), .sh), x4, x5, x6, x7, x8, some (eS st, .sh), x10, some (.int (top : Nat), .sh), x12, some (.tuple (ca.map .int), .sh), x14, some (.list ((gsI st ca top).map .int), .sh), x16, some (.list ((gsN st ca top).map fun n : Nat => oC (codeAt cs (stAt st n))), .own), x18, x19, x20, x21, x22, x23, x24, x25, x26, x27]) fun y => y = (.nx, [x0, x1, x2, some (.tuple (cs.map eC), .sh), x4, x5, x6, x7, x8, some (eS st, .sh), x10, some (.int (top : Nat), .sh), x12, some (.tuple (ca.map .int), .sh), x14, some (.list ((gsI st ca top).map .int), .sh), x16, some (.list ((gsN st ca top).map fun n : Nat => oC (codeAt cs (stAt st n))), .sh), x18, x19, x20, x21, x22, x23, x24, x25, x26, x27]) := by
  have gl := gs_len st ca top
  have e0 := guesses_eq (.tuple (cs.map eC)) st ca top ht hl
  have e1 := guessed_names_eq cs hc h st ca top ht hl
  have e2 := dNe_same (Sh.tup (k := 0) (sh_ints (gsI st ca top))) (by omega)
  have e3 := dNe_same (Sh.tup (k := 0) (sh_strs (nmS_ok h st (gsN st ca top)))) (by omega)
  have e5 := lc_typ (vs := [18]) (s := gN 18) (t := (tB1 (fIs (fSlot 18) (fun d => !isND d)))) (f := (toV (f2 (fSlot 18) (svO (fC (.int 0))) dIxA))) (w := [x0, x1, x2, some (.tuple (cs.map eC), .sh), x4, x5, x6, x7, x8, some (eS st, .sh), x10, some (.int (top : Nat), .sh), x12, some (.tuple (ca.map .int), .sh), x14, some (.list ((gsI st ca top).map .int), .sh), x16, some (.list ((gsN st ca top).map fun n : Nat => oC (codeAt cs (stAt st n))), .sh), none, x19, x20, x21, x22, x23, x24, x25, x26, x27]) (fun n : Nat => oC (codeAt cs (stAt st n))) (fun n : Nat => [x0, x1, x2, some (.tuple (cs.map eC), .sh), x4, x5, x6, x7, x8, some (eS st, .sh), x10, some (.int (top : Nat), .sh), x12, some (.tuple (ca.map .int), .sh), x14, some (.list ((gsI st ca top).map .int), .sh), x16, some (.list ((gsN st ca top).map fun n : Nat => oC (codeAt cs (stAt st n))), .sh), some (oC (codeAt cs (stAt st n)), .sh), x19, x20, x21, x22, x23, x24, x25, x26, x27]) (fun n => (codeAt cs (stAt st n)).isSome) (nm1 cs st) rfl (gsN st ca top) fun n hn => ⟨by simp, by
    cases hk : codeAt cs (stAt st n) <;> simp [oC], fun hs => by
    cases hk : codeAt cs (stAt st n) with
    | none => rw [hk] at hs; cases hs
    | some c => simp [oC, nm1, hk], rfl⟩
  have e6 := flc_eq (it := itV (fName 17)) (en := [x0, x1, x2, some (.tuple (cs.map eC), .sh), x4, x5, x6, x7, x8, some (eS st, .sh), x10, some (.int (top : Nat), .sh), x12, some (.tuple (ca.map .int), .sh), x14, some (.list ((gsI st ca top).map .int), .sh), x16, some (.list ((gsN st ca top).map fun n : Nat => oC (codeAt cs (stAt st n))), .own), x18, x19, x20, x21, x22, x23, x24, x25, x26, x27]) (en1 := [x0, x1, x2, some (.tuple (cs.map eC), .sh), x4, x5, x6, x7, x8, some (eS st, .sh), x10, some (.int (top : Nat), .sh), x12, some (.tuple (ca.map .int), .sh), x14, some (.list ((gsI st ca top).map .int), .sh), x16, some (.list ((gsN st ca top).map fun n : Nat => oC (codeAt cs (stAt st n))), .sh), x18, x19, x20, x21, x22, x23, x24, x25, x26, x27]) (by rw [e_itV]; simp) e5 (by
    rw [List.length_map, sl_ok]
    have := List.length_filter_le (fun n : Nat => (codeAt cs (stAt st n)).isSome) (gsN st ca top)
    omega)
  have e7 : ((gsN st ca top).filter fun n : Nat => (codeAt cs (stAt st n)).isSome).map (nm1 cs st) = (nmS cs st (gsN st ca top)).map .str := by
    unfold nmS
    rw [List.map_map]
    rfl
  rw [e7] at e6
  simp [e0, e1, e2, e6, backE, e3]

def IRt (cs : List Cd) (st : List Int) (x0 x1 x2 x4 x5 x6 x7 x8 x10 x11 x12 x13 x14 x15 x16 x17 x18 x21 x22 x23 x24 x25 x26 x27 : Option (D × Fl)) (ALL : List Int) (m : Nat) (en : En) : Prop := ∃ (done : List Int) (ow : Option (Int × Int × Rg)), en = [x0, x1, x2, some (.tuple (cs.map eC), .sh), x4, x5, x6, x7, x8, some (eS st, .sh), x10, x11, x12, x13, x14, x15, x16, x17, x18, some (.list (done.map .int), .own), some (eO ow, .sh), x21, x22, x23, x24, x25, x26, x27] ∧ done ++ rightOf cs st m ow = ALL ∧ Vo st m ow ∧ done.length + m ≤ 2000
theorem while_ok (cs : List Cd) (hc : cs.length ≤ 1000) (h : ∀ c ∈ cs, GC c) (st : List Int) (a : Int) (top : Int) (rg : Rg) (m : Nat) (v : Vo st m (some (a, top, rg))) (hm : m ≤ 2000) (x0 x1 x2 x4 x5 x6 x7 x8 x10 x11 x12 x13 x14 x15 x16 x17 x18 x21 x22 x23 x24 x25 x26 x27 : Option (D × Fl)) : Wp (whileL (tB1 (fIs (fSlot 20) (fun d => !isND d))) (sSeq (sSet 20 (fCall 5 (lCons (fName 3) (lCons (fName 9) (lCons (toV (f2 (fSlot 20) (svO (fC (.int 0))) dIxA)) (lCons (toV (f2 (fSlot 20) (svO (fC (.int 1))) dIxA)) (lCons (toV (f2 (fSlot 20) (svO (fC (.int 2))) dIxA)) (lNil)))))) F__law_caller)) (sSet 19 (f2 (fSlot 19) (toO (fIf (tB1 (fIs (fSlot 20) (fun d => !isND d))) (fLst (lCons (toV (f2 (fSlot 20) (svO (fC (.int 1))) dIxA)) (lNil))) (fLst (lNil)))) (dAdd)))) fuelN [x0, x1, x2, some (.tuple (cs.map eC), .sh), x4, x5, x6, x7, x8, some (eS st, .sh), x10, x11, x12, x13, x14, x15, x16, x17, x18, some (.list [], .own), some (eO (some (a, top, rg)), .sh), x21, x22, x23, x24, x25, x26, x27]) fun y => ∃ x20, y = (.nx, [x0, x1, x2, some (.tuple (cs.map eC), .sh), x4, x5, x6, x7, x8, some (eS st, .sh), x10, x11, x12, x13, x14, x15, x16, x17, x18, some (.list ((rightOf cs st m (some (a, top, rg))).map .int), .own), some (x20, .sh), x21, x22, x23, x24, x25, x26, x27]) := by
  refine while_inv (IRt cs st x0 x1 x2 x4 x5 x6 x7 x8 x10 x11 x12 x13 x14 x15 x16 x17 x18 x21 x22 x23 x24 x25 x26 x27 (rightOf cs st m (some (a, top, rg)))) ?_ m _ fuelN ?_ ?_
  · rintro n en ⟨done, ow, rfl, h1, h2, h3⟩
    cases ow with
    | none =>
      rw [right_none, List.append_nil] at h1
      subst h1
      simp [eO]
    | some z =>
      obtain ⟨x, p, g⟩ := z
      obtain ⟨v1, v2, v3⟩ := h2 x p g rfl
      cases n with
      | zero => omega
      | succ n =>
        obtain ⟨y, e2, e3⟩ := lcaller_eq cs st x p g hc h v2
        subst e3
        have hv := vo_next h h2
        simp [eO, e2]
        refine later_i ?_
        cases hcall : callerOf cs st x p g with
        | none =>
          have hz : done.length ≤ 16777216 := by omega
          rw [right_stop hcall, List.append_nil] at h1
          simp [eO, hz]
          exact ⟨done, none, by simp [eO], by rw [right_none, List.append_nil]; exact h1, fun _ _ _ z => (by cases z), by omega⟩
        | some z =>
          obtain ⟨x', p', g'⟩ := z
          have hz : done.length + 1 ≤ 16777216 := by omega
          rw [hcall] at hv
          simp [eO, hz]
          refine ⟨done ++ [p'], some (x', p', g'), by simp [eO], ?_, hv, by simp; omega⟩
          rw [← h1]
          simp [rightOf, hcall]
  · exact ⟨[], some (a, top, rg), rfl, rfl, v, by simp; exact hm⟩
  · unfold fuelN; omega

theorem if10_ok (cs : List Cd) (hc : cs.length ≤ 1000) (h : ∀ c ∈ cs, GC c) (st ca : List Int) (a : Int) (top : Nat) (ht : top ≤ st.length) (hl : st.length ≤ 1000) (rg : Rg) (m : Nat) (v : Vo st m (some (a, (top : Int), rg))) (hm : m ≤ 2000) (x0 x1 x2 x4 x5 x6 x7 x8 x14 x16 x17 x18 x20 x21 x22 x23 x24 x25 x26 x27 : Option (D × Fl)) : Wp (sIf (tB1 (f2 (toO (fCall 6 (lCons (fName 3) (lCons (fName 9) (lCons (fName 10) (lCons (fName 11) (lCons (fName 12) (lCons (fName 13) (lNil))))))) F_false_guesses)) (toO (fN (aCons (toO (fN (aCons (toO (fLc [16] (itV (fName 15)) (gN 16) (tB1 (f2 (fSlot 16) (fSlot 19) (dNotIn))) (fName 16))) (aNil)) dSort)) (aNil)) dTuple)) (dNe))) (sRet (ofV (fC (.bool false)))) (sNx) [x0, x1, x2, some (.tuple (cs.map eC), .sh), x4, x5, x6, x7, x8, some (eS st, .sh), some (.int a, .sh), some (.int (top : Nat), .sh), some (eG rg, .sh), some (.tuple (ca.map .int), .sh), x14, some (.list ((gsI st ca top).map .int), .sh), x16, x17, x18, some (.list ((rightOf cs st m (some (a, (top : Int), rg))).map .int), .own), x20, x21, x22, x23, x24, x25, x26, x27]) fun y => y = (.nx, [x0, x1, x2, some (.tuple (cs.map eC), .sh), x4, x5, x6, x7, x8, some (eS st, .sh), some (.int a, .sh), some (.int (top : Nat), .sh), some (eG rg, .sh), some (.tuple (ca.map .int), .sh), x14, some (.list ((gsI st ca top).map .int), .sh), x16, x17, x18, some (.list ((rightOf cs st m (some (a, (top : Int), rg))).map .int), .own), x20, x21, x22, x23, x24, x25, x26, x27]) := by
  have gl := fg_len st ca top (rightOf cs st m (some (a, (top : Int), rg)))
  obtain ⟨y, e0, ey⟩ := false_guesses_eq cs hc h st ca hl a top ht rg m v hm
  subst ey
  generalize rightOf cs st m (some (a, (top : Int), rg)) = R at *
  have e2 := dNe_same (Sh.tup (k := 0) (sh_ints (srtI (fgL st ca top R)))) (by omega)
  have e5 := lc_typ (vs := [16]) (s := gN 16) (t := (tB1 (f2 (fSlot 16) (fSlot 19) (dNotIn)))) (f := fName 16) (w := [x0, x1, x2, some (.tuple (cs.map eC), .sh), x4, x5, x6, x7, x8, some (eS st, .sh), some (.int a, .sh), some (.int (top : Nat), .sh), some (eG rg, .sh), some (.tuple (ca.map .int), .sh), x14, some (.list ((gsI st ca top).map .int), .sh), none, x17, x18, some (.list ((R).map .int), .own), x20, x21, x22, x23, x24, x25, x26, x27]) PyData.int (fun p => [x0, x1, x2, some (.tuple (cs.map eC), .sh), x4, x5, x6, x7, x8, some (eS st, .sh), some (.int a, .sh), some (.int (top : Nat), .sh), some (eG rg, .sh), some (.tuple (ca.map .int), .sh), x14, some (.list ((gsI st ca top).map .int), .sh), some (.int p, .sh), x17, x18, some (.list ((R).map .int), .own), x20, x21, x22, x23, x24, x25, x26, x27]) (fun p => !decide (p ∈ R)) PyData.int rfl (gsI st ca top) fun p hp => ⟨by simp, by simp, fun _ => by simp, rfl⟩
  have e6 := flc_eq (it := itV (fName 15)) (en := [x0, x1, x2, some (.tuple (cs.map eC), .sh), x4, x5, x6, x7, x8, some (eS st, .sh), some (.int a, .sh), some (.int (top : Nat), .sh), some (eG rg, .sh), some (.tuple (ca.map .int), .sh), x14, some (.list ((gsI st ca top).map .int), .sh), x16, x17, x18, some (.list ((R).map .int), .own), x20, x21, x22, x23, x24, x25, x26, x27]) (en1 := [x0, x1, x2, some (.tuple (cs.map eC), .sh), x4, x5, x6, x7, x8, some (eS st, .sh), some (.int a, .sh), some (.int (top : Nat), .sh), some (eG rg, .sh), some (.tuple (ca.map .int), .sh), x14, some (.list ((gsI st ca top).map .int), .sh), x16, x17, x18, some (.list ((R).map .int), .own), x20, x21, x22, x23, x24, x25, x26, x27]) (by rw [e_itV]; simp) e5 (by rw [List.length_map, sl_ok]; exact Nat.le_trans gl (by omega))
  rw [show (gsI st ca top).filter (fun p => !decide (p ∈ R)) = fgL st ca top R from rfl] at e6
  have e7 := dSort_lI (ns := fgL st ca top R) (by omega)
  simp [e0, e6, backE, e7, e2]

theorem sh_mv {c : Cd} (h : GC c) (b : Int) : Sh 6 (eC (mv b c)) := Sh.tup fun d hd => by
  simp only [List.mem_cons, List.not_mem_nil, or_false] at hd
  rcases hd with rfl | rfl | rfl | rfl
  · exact Sh.mono (Sh.str _ (show PyData.strOk c.name = true from nm_ok h)) (Nat.zero_le _)
  · exact Sh.mono (Sh.int _) (by omega)
  · exact Sh.mono (Sh.int _) (by omega)
  · exact Sh.tup fun d hd => by
      obtain ⟨r, hr, rfl⟩ := List.mem_map.mp hd
      exact sh_R (h.r r hr)
theorem if12_ok (cs : List Cd) (hc : cs.length ≤ 1000) (h : ∀ c ∈ cs, GC c) (b : Int) (x0 x1 x2 x4 x5 x6 x7 x8 x9 x10 x11 x12 x13 x14 x15 x16 x17 x18 x19 x20 x22 x23 x24 x25 x26 x27 : Option (D × Fl)) : Wp (sIf (tOrF (tB1 (f2 (toO (fCall 2 (lCons (fName 3) (lCons (fName 21) (lNil))) F_moved)) (toO (fN (aCons (toO (fLc [5, 6, 7, 8] (itV (fName 3)) (gT 4 (gsCons (gN 5) (gsCons (gN 6) (gsCons (gN 7) (gsCons (gN 8) (gsNil)))))) (tTrue) (fTup (lCons (fName 5) (lCons (toV (f2 (fSlot 6) (fSlot 21) (dAdd))) (lCons (fName 7) (lCons (fName 8) (lNil)))))))) (aNil)) dTuple)) (dNe))) (tB1 (f2 (toO (fCall 2 (lCons (toV (fCall 2 (lCons (fName 3) (lCons (fName 21) (lNil))) F_moved)) (lCons (toV (f2 (svO (fC (.int 0))) (fSlot 21) (isI iSub))) (lNil))) F_moved)) (fSlot 3) (dNe)))) (sRet (ofV (fC (.bool false)))) (sNx) [x0, x1, x2, some (.tuple (cs.map eC), .sh), x4, x5, x6, x7, x8, x9, x10, x11, x12, x13, x14, x15, x16, x17, x18, x19, x20, some (.int b, .sh), x22, x23, x24, x25, x26, x27]) fun y => y = (.nx, [x0, x1, x2, some (.tuple (cs.map eC), .sh), x4, x5, x6, x7, x8, x9, x10, x11, x12, x13, x14, x15, x16, x17, x18, x19, x20, some (.int b, .sh), x22, x23, x24, x25, x26, x27]) := by
  have e0 := moved_eq cs hc b
  have e1 := moved_eq (cs.map (mv b)) (by rw [List.length_map]; exact hc) (0 - b)
  rw [mv_back] at e1
  have e2 : dNe (.tuple ((cs.map (mv b)).map eC)) (.tuple ((cs.map (mv b)).map eC)) = some (.bool false, false) := dNe_same (Sh.tup (k := 6) fun d hd => by
    rw [List.map_map] at hd
    obtain ⟨c, hc', rfl⟩ := List.mem_map.mp hd
    exact sh_mv (h c hc') b) (by omega)
  have e3 : dNe (.tuple (cs.map eC)) (.tuple (cs.map eC)) = some (.bool false, false) := dNe_same (Sh.tup (k := 6) fun d hd => by
    obtain ⟨c, hc', rfl⟩ := List.mem_map.mp hd
    exact sh_C (h c hc')) (by omega)
  have e5 := lc_typ (vs := [5, 6, 7, 8]) (s := (gT 4 (gsCons (gN 5) (gsCons (gN 6) (gsCons (gN 7) (gsCons (gN 8) (gsNil))))))) (t := tTrue) (f := (fTup (lCons (fName 5) (lCons (toV (f2 (fSlot 6) (fSlot 21) (dAdd))) (lCons (fName 7) (lCons (fName 8) (lNil))))))) (w := [x0, x1, x2, some (.tuple (cs.map eC), .sh), x4, none, none, none, none, x9, x10, x11, x12, x13, x14, x15, x16, x17, x18, x19, x20, some (.int b, .sh), x22, x23, x24, x25, x26, x27]) eC (fun c => [x0, x1, x2, some (.tuple (cs.map eC), .sh), x4, some (.str c.name, .sh), some (.int c.beg, .sh), some (.int c.size, .sh), some (.tuple (c.rules.map eR), .sh), x9, x10, x11, x12, x13, x14, x15, x16, x17, x18, x19, x20, some (.int b, .sh), x22, x23, x24, x25, x26, x27]) (fun _ => true) (fun c => eC (mv b c)) rfl cs fun c hn => ⟨by simp, by simp, fun _ => by simp [mv], rfl⟩
  rw [List.filter_eq_self.mpr (fun _ _ => rfl)] at e5
  have e6 := flc_eq (it := itV (fName 3)) (en := [x0, x1, x2, some (.tuple (cs.map eC), .sh), x4, x5, x6, x7, x8, x9, x10, x11, x12, x13, x14, x15, x16, x17, x18, x19, x20, some (.int b, .sh), x22, x23, x24, x25, x26, x27]) (en1 := [x0, x1, x2, some (.tuple (cs.map eC), .sh), x4, x5, x6, x7, x8, x9, x10, x11, x12, x13, x14, x15, x16, x17, x18, x19, x20, some (.int b, .sh), x22, x23, x24, x25, x26, x27]) (by rw [e_itV]; simp) e5 (by rw [List.length_map, sl_ok]; omega)
  have e7 : (cs.map fun c => eC (mv b c)) = (cs.map (mv b)).map eC := by
    rw [List.map_map]
    rfl
  rw [e7] at e6
  generalize (cs.map (mv b)).map eC = M at *
  simp only [Int.zero_sub] at e1
  simp [e0, e1, e2, e3, e6, backE]

end Hd
namespace Hd
open PySem PySem.Spec L2 Fx

theorem stAt_mem {sp : List Int} {v : Int} (h0 : 0 ≤ v) (h1 : v < sp.length) : stAt sp v ∈ sp := by
  obtain ⟨k, rfl⟩ : ∃ k : Nat, v = k := ⟨v.toNat, by omega⟩
  have hk : k < sp.length := by omega
  unfold stAt
  rw [Int.toNat_natCast, List.getD_eq_getElem?_getD, List.getElem?_eq_getElem hk]
  exact List.getElem_mem hk
def IAk (dr sp : List Int) (shift : Int) (x0 x2 x3 x5 x6 x7 x8 x9 x10 x11 x12 x13 x14 x15 x16 x17 x18 x19 x20 x21 x25 x26 x27 : Option (D × Fl)) (y23 : Option (D × Bool)) (m : Nat) (ds acc : List D) (w : En) : Prop := ∃ (l : List Int) (n : Nat), acc = l.map PyData.int ∧ l.length + ds.length = m ∧ (∀ a ∈ l, a - shift ∈ sp) ∧ w = [x0, some (eW dr n, .own), x2, x3, some (.list (sp.map .int), .sh), x5, x6, x7, x8, x9, x10, x11, x12, x13, x14, x15, x16, x17, x18, x19, x20, x21, some (.int shift, .sh), jk y23, none, x25, x26, x27]
theorem asked_ok {dr : List Int} (hd : Ok997 dr) (n : Nat) (sp : List Int) (hl : sp.length ≤ 50) (h0 : 0 < sp.length) (shift : Int) (x0 x2 x3 x5 x6 x7 x8 x9 x10 x11 x12 x13 x14 x15 x16 x17 x18 x19 x20 x21 x24 x25 x26 x27 : Option (D × Fl)) (y23 : Option (D × Bool)) : Wp (sSet 23 (fN (aCons (toO (fLc [24] (itR (aCons (toO (f2 (svO (fC (.int 1))) (toO (fCallW 1 1 (lCons (fC (.int 3)) (lNil)) F__law_next)) (dAdd))) (aNil)) range1D) (gN 24) (tTrue) (toV (f2 (toO (f2 (fSlot 4) (toO (fCallW 1 1 (lCons (toV (fN (aCons (fSlot 4) (aNil)) dLen)) (lNil)) F__law_next)) dIxA)) (fSlot 22) (dAdd))))) (aNil)) dTuple) [x0, some (eW dr n, .own), x2, x3, some (.list (sp.map .int), .sh), x5, x6, x7, x8, x9, x10, x11, x12, x13, x14, x15, x16, x17, x18, x19, x20, x21, some (.int shift, .sh), jk y23, x24, x25, x26, x27]) fun y => ∃ (a0 : Int) (as : List Int) (n' : Nat), as.length ≤ 10 ∧ (∀ a ∈ a0 :: as, a - shift ∈ sp) ∧ y = (.nx, [x0, some (eW dr n', .own), x2, x3, some (.list (sp.map .int), .sh), x5, x6, x7, x8, x9, x10, x11, x12, x13, x14, x15, x16, x17, x18, x19, x20, x21, some (.int shift, .sh), some (.tuple ((a0 :: as).map .int), .sh), x24, x25, x26, x27]) := by
  rw [e_sSet, wp_bind, e_fN, wp_bind, e_aCons, wp_bind, e_toO, wp_map]
  refine flc_wp ?_
  obtain ⟨u, u0, u1, eu⟩ := next_ex hd n 3 (by omega)
  obtain ⟨u, rfl⟩ : ∃ k : Nat, u = k := ⟨u.toNat, by omega⟩
  have er : range1D [.int (1 + (u : Int))] = some (rngD 0 1 (u + 1)) := by
    rw [show (1 + (u : Int)) = ((u + 1 : Nat) : Int) by omega]
    exact range1_nat (by omega)
  rw [wp_itR]
  simp [eu, er]
  refine wp_mono (lc_inv (IAk dr sp shift x0 x2 x3 x5 x6 x7 x8 x9 x10 x11 x12 x13 x14 x15 x16 x17 x18 x19 x20 x21 x25 x26 x27 y23 (u + 1)) ?_ _ [] _ ⟨[], n + 1, rfl, by rw [rng_len]; simp, fun a ha => (by cases ha), rfl⟩) ?_
  · rintro d r acc w ⟨l, n, rfl, h1, h2, rfl⟩
    rw [List.length_cons] at h1
    obtain ⟨v, v0, v1, e⟩ := next_ex hd n sp.length (by omega)
    have ea := at_st sp v v0 v1
    simp [e, ea]
    refine ⟨l ++ [stAt sp v + shift], n + 1, by simp, by simp; omega, fun a ha => ?_, rfl⟩
    rcases List.mem_append.mp ha with ha | ha
    · exact h2 a ha
    · rw [List.mem_singleton.mp ha, show stAt sp v + shift - shift = stAt sp v by omega]
      exact stAt_mem v0 v1
  · rintro ⟨rs, w⟩ ⟨l, n2, e2, e3, e4, e5⟩
    rw [List.nil_append] at e2
    dsimp only at e2 e5
    subst e2
    subst e5
    rw [List.length_nil] at e3
    cases l with
    | nil => simp at e3
    | cons a0 as =>
      rw [List.length_cons] at e3
      refine ⟨by dsimp only; rw [List.length_map, List.length_cons]; omega, ?_⟩
      simp only [backE, List.getElem?_cons_succ, List.getElem?_cons_zero, List.set_cons_succ, List.set_cons_zero, wp_some, e_aNil, Option.map_some, wp_map, lates_cons, late_tv, lates_nil, Option.bind_some, wp_bind, dTuple_l, free_cons, free_jk, if_true, flag_f]
      exact ⟨a0, as, by omega, ⟨e4 a0 (List.mem_cons_self ..), fun a ha => e4 a (List.mem_cons_of_mem _ ha)⟩, n2, rfl⟩

theorem able_ok (cs : List Cd) (asked : List Int) (hl : asked.length ≤ 100) (x0 x1 x2 x3 x5 x6 x7 x8 x9 x10 x11 x12 x13 x14 x15 x16 x17 x18 x19 x20 x21 x22 x24 x26 x27 : Option (D × Fl)) (y25 : Option (D × Bool)) : Wp (sSet 25 (fLc [26] (itR (aCons (toO (f2 (svO (fC (.int 0))) (svO (fC (.int 60))) (isI iSub))) (aCons (svO (fC (.int 61))) (aNil))) range2D) (gN 26) (tB1 (f2 (toO (fLc [27] (itV (fName 23)) (gN 27) (tB1 (f2 (toO (f2 (fSlot 27) (fSlot 26) (isI iSub))) (fSlot 4) (dNotIn))) (fName 27))) (toO (fLst (lNil))) (dEq))) (fName 26)) [x0, x1, x2, x3, some (.list ((spI cs).map .int), .sh), x5, x6, x7, x8, x9, x10, x11, x12, x13, x14, x15, x16, x17, x18, x19, x20, x21, x22, some (.tuple (asked.map .int), .sh), x24, jk y25, x26, x27]) fun y => y = (.nx, [x0, x1, x2, x3, some (.list ((spI cs).map .int), .sh), x5, x6, x7, x8, x9, x10, x11, x12, x13, x14, x15, x16, x17, x18, x19, x20, x21, x22, some (.tuple (asked.map .int), .sh), x24, some (.list (((rgI (-60) 61).filter (offQ cs asked)).map .int), .own), x26, x27]) := by
  have er := rng2 (-60) 61 (by decide) (by decide)
  have e5 := lc_typ (vs := [26]) (s := gN 26) (t := (tB1 (f2 (toO (fLc [27] (itV (fName 23)) (gN 27) (tB1 (f2 (toO (f2 (fSlot 27) (fSlot 26) (isI iSub))) (fSlot 4) (dNotIn))) (fName 27))) (toO (fLst (lNil))) (dEq)))) (f := fName 26) (w := [x0, x1, x2, x3, some (.list ((spI cs).map .int), .sh), x5, x6, x7, x8, x9, x10, x11, x12, x13, x14, x15, x16, x17, x18, x19, x20, x21, x22, some (.tuple (asked.map .int), .sh), x24, jk y25, none, x27]) PyData.int (fun b => [x0, x1, x2, x3, some (.list ((spI cs).map .int), .sh), x5, x6, x7, x8, x9, x10, x11, x12, x13, x14, x15, x16, x17, x18, x19, x20, x21, x22, some (.tuple (asked.map .int), .sh), x24, jk y25, some (.int b, .sh), x27]) (offQ cs asked) PyData.int rfl (rgI (-60) 61) fun b hb => ⟨by simp, by
    have e7 := lc_typ (vs := [27]) (s := gN 27) (t := (tB1 (f2 (toO (f2 (fSlot 27) (fSlot 26) (isI iSub))) (fSlot 4) (dNotIn)))) (f := fName 27) (w := [x0, x1, x2, x3, some (.list ((spI cs).map .int), .sh), x5, x6, x7, x8, x9, x10, x11, x12, x13, x14, x15, x16, x17, x18, x19, x20, x21, x22, some (.tuple (asked.map .int), .sh), x24, jk y25, some (.int b, .sh), none]) PyData.int (fun a => [x0, x1, x2, x3, some (.list ((spI cs).map .int), .sh), x5, x6, x7, x8, x9, x10, x11, x12, x13, x14, x15, x16, x17, x18, x19, x20, x21, x22, some (.tuple (asked.map .int), .sh), x24, jk y25, some (.int b, .sh), some (.int a, .sh)]) (fun a => !decide (a - b ∈ spI cs)) PyData.int rfl asked fun a ha => ⟨by simp, by simp, fun _ => by simp, rfl⟩
    have e8 := flc_eq (it := itV (fName 23)) (en := [x0, x1, x2, x3, some (.list ((spI cs).map .int), .sh), x5, x6, x7, x8, x9, x10, x11, x12, x13, x14, x15, x16, x17, x18, x19, x20, x21, x22, some (.tuple (asked.map .int), .sh), x24, jk y25, some (.int b, .sh), x27]) (en1 := [x0, x1, x2, x3, some (.list ((spI cs).map .int), .sh), x5, x6, x7, x8, x9, x10, x11, x12, x13, x14, x15, x16, x17, x18, x19, x20, x21, x22, some (.tuple (asked.map .int), .sh), x24, jk y25, some (.int b, .sh), x27]) (by rw [e_itV]; simp) e7 (by
      rw [List.length_map, sl_ok]
      have := List.length_filter_le (fun a => !decide (a - b ∈ spI cs)) asked
      omega)
    have e9 : dEq (.list ((asked.filter fun a => !decide (a - b ∈ spI cs)).map .int)) (.list []) = some (.bool (offQ cs asked b), false) := by
      rw [dEq_of (Sh.lst (k := 0) (sh_ints _)) (Sh.lst (k := 0) fun d hd => by cases hd) (by omega) (by omega), eqv_nil, List.isEmpty_map]
      rfl
    simp only [e_tB1, e_f2, e_toO, e8, Option.map_some, Option.bind_some, e_fLst, e_lNil, List.length_nil, Nat.zero_le, if_true, late_tv, e9, backE, List.getElem?_cons_succ, List.getElem?_cons_zero, List.set_cons_succ, List.set_cons_zero], fun _ => by simp, rfl⟩
  have e6 := flc_eq (en := [x0, x1, x2, x3, some (.list ((spI cs).map .int), .sh), x5, x6, x7, x8, x9, x10, x11, x12, x13, x14, x15, x16, x17, x18, x19, x20, x21, x22, some (.tuple (asked.map .int), .sh), x24, jk y25, x26, x27]) (en1 := [x0, x1, x2, x3, some (.list ((spI cs).map .int), .sh), x5, x6, x7, x8, x9, x10, x11, x12, x13, x14, x15, x16, x17, x18, x19, x20, x21, x22, some (.tuple (asked.map .int), .sh), x24, jk y25, x26, x27]) (ds := (rgI (-60) 61).map .int) (it := (itR (aCons (toO (f2 (svO (fC (.int 0))) (svO (fC (.int 60))) (isI iSub))) (aCons (svO (fC (.int 61))) (aNil))) range2D)) (itR_at (hs := [.tv (.int (-60)), .sv (.int 61)]) (by simp) rfl er) e5 (by
    rw [List.length_map, sl_ok]
    have h1 := List.length_filter_le (offQ cs asked) (rgI (-60) 61)
    have h2 : (rgI (-60) 61).length = 121 := rfl
    omega)
  simp [e6, backE]

theorem if16_ok (cs : List Cd) (hc : cs.length ≤ 100) (h : ∀ c ∈ cs, GC c) (p : Pw cs) (a0 : Int) (as : List Int) (hl : as.length ≤ 10) (shift : Int) (h1 : -5 ≤ shift) (h2 : shift ≤ 6) (h3 : ∀ a ∈ a0 :: as, a - shift ∈ spI cs) (x0 x1 x2 x5 x6 x7 x8 x9 x10 x11 x12 x13 x14 x15 x16 x17 x18 x19 x20 x21 x24 x26 x27 : Option (D × Fl)) : Wp (sIf (tOrF (tB1 (f2 (toO (fCall 2 (lCons (fName 3) (lCons (fName 23) (lNil))) F_offsets_for)) (toO (fN (aCons (fSlot 25) (aNil)) dTuple)) (dNe))) (tB1 (f2 (fSlot 22) (fSlot 25) (dNotIn)))) (sRet (ofV (fC (.bool false)))) (sNx) [x0, x1, x2, some (.tuple (cs.map eC), .sh), some (.list ((spI cs).map .int), .sh), x5, x6, x7, x8, x9, x10, x11, x12, x13, x14, x15, x16, x17, x18, x19, x20, x21, some (.int shift, .sh), some (.tuple ((a0 :: as).map .int), .sh), x24, some (.list (((rgI (-60) 61).filter (offQ cs (a0 :: as))).map .int), .own), x26, x27]) fun y => y = (.nx, [x0, x1, x2, some (.tuple (cs.map eC), .sh), some (.list ((spI cs).map .int), .sh), x5, x6, x7, x8, x9, x10, x11, x12, x13, x14, x15, x16, x17, x18, x19, x20, x21, some (.int shift, .sh), some (.tuple ((a0 :: as).map .int), .sh), x24, some (.list (((rgI (-60) 61).filter (offQ cs (a0 :: as))).map .int), .own), x26, x27]) := by
  have e0 := offsets_eq cs hc h a0 as (by omega)
  rw [off_same h p h1 h2 (h3 a0 (List.mem_cons_self ..))] at e0
  have e1 := off_shift h1 h2 h3
  generalize (rgI (-60) 61).filter (offQ cs (a0 :: as)) = A at *
  generalize (a0 :: as).map PyData.int = Q at *
  have e2 := dNe_same (Sh.tup (k := 0) (sh_ints A)) (by omega)
  simp [e0, e1, e2]

def ILw (ns dr : List Int) (en : En) : Prop := ∃ (n : Nat) (x2 x3 x4 x5 x6 x7 x8 x9 x10 x11 x12 x13 x14 x15 x16 x17 x18 x19 x20 x21 x22 x23 x24 x25 x26 x27 : Option (D × Bool)), en = [some (.list (ns.map .int), .sh), some (eW dr n, .own), jk x2, jk x3, jk x4, jk x5, jk x6, jk x7, jk x8, jk x9, jk x10, jk x11, jk x12, jk x13, jk x14, jk x15, jk x16, jk x17, jk x18, jk x19, jk x20, jk x21, jk x22, jk x23, jk x24, jk x25, jk x26, jk x27]
theorem turn_ok (ns : List Int) {dr : List Int} (hd : Ok997 dr) (n : Nat) (d : D) (x2 x3 x4 x5 x6 x7 x8 x9 x10 x11 x12 x13 x14 x15 x16 x17 x18 x19 x20 x21 x22 x23 x24 x25 x26 x27 : Option (D × Bool)) : Wp (sSeq (sSet 3 (fCallW 0 1 (lNil) F__law_codes)) (sSeq (sSet 4 (fLst (lNil))) (sSeq (sFor (itV (fName 3)) (gT 4 (gsCons (gN 5) (gsCons (gN 6) (gsCons (gN 7) (gsCons (gN 8) (gsNil)))))) (sSet 4 (f2 (fSlot 4) (toO (fLr2 (fName 6) (toV (f2 (fSlot 6) (fSlot 7) (dAdd))))) (dAdd)))) (sSeq (sAsg (toV (fCallW 1 1 (lCons (fName 3) (lNil)) F__law_world)) (gT 4 (gsCons (gN 9) (gsCons (gN 10) (gsCons (gN 11) (gsCons (gN 12) (gsNil))))))) (sSeq (sSet 13 (fN (aCons (toO (fN (aCons (toO (f2 (toO (fLc [14] (itV (fName 4)) (gN 14) (tB1 (f2 (toO (fCallW 1 1 (lCons (fC (.int 2)) (lNil)) F__law_next)) (svO (fC (.int 0))) (dEq))) (fName 14))) (toO (fLst (lCons (toV (fCallW 1 1 (lCons (fC (.int 30)) (lNil)) F__law_next)) (lNil)))) (dAdd))) (aNil)) dSortSet)) (aNil)) dTuple)) (sSeq (sSet 15 (f1 (toO (fLc [16] (itR (aCons (toO (fN (aCons (fSlot 9) (aNil)) dLen)) (aNil)) range1D) (gN 16) (tAndF (tB1 (f2 (fSlot 16) (fSlot 11) (isI iLt))) (tB1 (f2 (toO (f2 (toO (f2 (fSlot 9) (fSlot 16) dIxA)) (svO (fC (.int 1))) (isI iSub))) (fSlot 13) (dIn)))) (fName 16))) dRev)) (sSeq (sSet 17 (fLc [16] (itV (fName 15)) (gN 16) (tTrue) (toV (fCall 2 (lCons (fName 3) (lCons (toV (f2 (fSlot 9) (fSlot 16) dIxA)) (lNil))) F__law_code_at)))) (sSeq (sIf (tOrF (tB1 (f2 (toO (fCall 4 (lCons (fName 3) (lCons (fName 9) (lCons (fName 11) (lCons (fName 13) (lNil))))) F_guesses)) (toO (fN (aCons (fSlot 15) (aNil)) dTuple)) (dNe))) (tB1 (f2 (toO (fCall 4 (lCons (fName 3) (lCons (fName 9) (lCons (fName 11) (lCons (fName 13) (lNil))))) F_guessed_names)) (toO (fN (aCons (toO (fLc [18] (itV (fName 17)) (gN 18) (tB1 (fIs (fSlot 18) (fun d => !isND d))) (toV (f2 (fSlot 18) (svO (fC (.int 0))) dIxA)))) (aNil)) dTuple)) (dNe)))) (sRet (ofV (fC (.bool false)))) (sNx)) (sSeq (sParN [19, 20] (mCons (fLst (lNil)) (mCons (ofV (fTup (lCons (fName 10) (lCons (fName 11) (lCons (fName 12) (lNil)))))) (mNil)))) (sSeq (whileL (tB1 (fIs (fSlot 20) (fun d => !isND d))) (sSeq (sSet 20 (fCall 5 (lCons (fName 3) (lCons (fName 9) (lCons (toV (f2 (fSlot 20) (svO (fC (.int 0))) dIxA)) (lCons (toV (f2 (fSlot 20) (svO (fC (.int 1))) dIxA)) (lCons (toV (f2 (fSlot 20) (svO (fC (.int 2))) dIxA)) (lNil)))))) F__law_caller)) (sSet 19 (f2 (fSlot 19) (toO (fIf (tB1 (fIs (fSlot 20) (fun d => !isND d))) (fLst (lCons (toV (f2 (fSlot 20) (svO (fC (.int 1))) dIxA)) (lNil))) (fLst (lNil)))) (dAdd)))) fuelN) (sSeq (sIf (tB1 (f2 (toO (fCall 6 (lCons (fName 3) (lCons (fName 9) (lCons (fName 10) (lCons (fName 11) (lCons (fName 12) (lCons (fName 13) (lNil))))))) F_false_guesses)) (toO (fN (aCons (toO (fN (aCons (toO (fLc [16] (itV (fName 15)) (gN 16) (tB1 (f2 (fSlot 16) (fSlot 19) (dNotIn))) (fName 16))) (aNil)) dSort)) (aNil)) dTuple)) (dNe))) (sRet (ofV (fC (.bool false)))) (sNx)) (sSeq (sSet 21 (fCallW 1 1 (lCons (fC (.int 9)) (lNil)) F__law_next)) (sSeq (sIf (tOrF (tB1 (f2 (toO (fCall 2 (lCons (fName 3) (lCons (fName 21) (lNil))) F_moved)) (toO (fN (aCons (toO (fLc [5, 6, 7, 8] (itV (fName 3)) (gT 4 (gsCons (gN 5) (gsCons (gN 6) (gsCons (gN 7) (gsCons (gN 8) (gsNil)))))) (tTrue) (fTup (lCons (fName 5) (lCons (toV (f2 (fSlot 6) (fSlot 21) (dAdd))) (lCons (fName 7) (lCons (fName 8) (lNil)))))))) (aNil)) dTuple)) (dNe))) (tB1 (f2 (toO (fCall 2 (lCons (toV (fCall 2 (lCons (fName 3) (lCons (fName 21) (lNil))) F_moved)) (lCons (toV (f2 (svO (fC (.int 0))) (fSlot 21) (isI iSub))) (lNil))) F_moved)) (fSlot 3) (dNe)))) (sRet (ofV (fC (.bool false)))) (sNx)) (sSeq (sSet 22 (f2 (toO (fCallW 1 1 (lCons (fC (.int 12)) (lNil)) F__law_next)) (svO (fC (.int 5))) (isI iSub))) (sSeq (sSet 23 (fN (aCons (toO (fLc [24] (itR (aCons (toO (f2 (svO (fC (.int 1))) (toO (fCallW 1 1 (lCons (fC (.int 3)) (lNil)) F__law_next)) (dAdd))) (aNil)) range1D) (gN 24) (tTrue) (toV (f2 (toO (f2 (fSlot 4) (toO (fCallW 1 1 (lCons (toV (fN (aCons (fSlot 4) (aNil)) dLen)) (lNil)) F__law_next)) dIxA)) (fSlot 22) (dAdd))))) (aNil)) dTuple)) (sSeq (sSet 25 (fLc [26] (itR (aCons (toO (f2 (svO (fC (.int 0))) (svO (fC (.int 60))) (isI iSub))) (aCons (svO (fC (.int 61))) (aNil))) range2D) (gN 26) (tB1 (f2 (toO (fLc [27] (itV (fName 23)) (gN 27) (tB1 (f2 (toO (f2 (fSlot 27) (fSlot 26) (isI iSub))) (fSlot 4) (dNotIn))) (fName 27))) (toO (fLst (lNil))) (dEq))) (fName 26))) (sIf (tOrF (tB1 (f2 (toO (fCall 2 (lCons (fName 3) (lCons (fName 23) (lNil))) F_offsets_for)) (toO (fN (aCons (fSlot 25) (aNil)) dTuple)) (dNe))) (tB1 (f2 (fSlot 22) (fSlot 25) (dNotIn)))) (sRet (ofV (fC (.bool false)))) (sNx))))))))))))))))) [some (.list (ns.map .int), .sh), some (eW dr n, .own), some (d, .sh), jk x3, jk x4, jk x5, jk x6, jk x7, jk x8, jk x9, jk x10, jk x11, jk x12, jk x13, jk x14, jk x15, jk x16, jk x17, jk x18, jk x19, jk x20, jk x21, jk x22, jk x23, jk x24, jk x25, jk x26, jk x27]) fun y => y.1 = .nx ∧ ILw ns dr y.2 := by
  obtain ⟨y, e1, cs, n1, rfl, hc, hp, l1, l3⟩ := codes_ok hd n
  have sl1 := spI_len hc
  simp [e1]
  refine later_i ?_
  simp
  refine later_i ?_
  rw [wp_sSeq, wp_sFor, wp_itV]
  simp [-wp_sSeq]
  refine wp_mono (spots_ok (spI cs) _ _ _ _ _ _ _ _ _ _ _ _ _ _ _ _ _ _ _ _ _ _ _ _ _ ⟨cs, [], x5, x6, x7, x8, rfl, hc, rfl, rfl, by simp; omega⟩) ?_
  rintro ⟨o, en⟩ ⟨e, cs', sp, y5, y6, y7, y8, e2, _, e3, e4, _⟩
  dsimp only at e e3
  subst e
  subst e3
  obtain rfl : cs' = [] := by
    cases cs' with
    | nil => rfl
    | cons _ _ => cases e2
  rw [show spI [] = [] from rfl, List.append_nil] at e4
  subst e4
  refine later_i ?_
  obtain ⟨y, e5, st, a, top, rg, n2, rfl, t1, t2, t3⟩ := world_ok hd n1 cs hc l3
  obtain ⟨top, rfl⟩ : ∃ k : Nat, top = k := ⟨top.toNat, by omega⟩
  simp [e5]
  refine later_i ?_
  have tl : top ≤ st.length := by omega
  have c3 : cs.length ≤ 1000 := by omega
  have s3 : st.length ≤ 1000 := by omega
  have sp50 : (spI cs).length ≤ 50 := by omega
  rw [wp_sSeq]
  refine wp_mono (calls_ok hd n2 (spI cs) sp50 _ _ _ _ _ _ _ _ _ _ _ _ _ _ _ _ _ _ _ _ _ _ _ _ _ x13) ?_
  rintro _ ⟨ca, n3, rfl⟩
  refine later_i ?_
  rw [wp_sSeq]
  refine wp_mono (due_ok st ca top tl s3 _ _ _ _ _ _ _ _ _ _ _ _ _ _ _ _ _ _ _ _ _ _ _ _ x15) ?_
  rintro _ rfl
  refine later_i ?_
  rw [wp_sSeq]
  refine wp_mono (names_ok cs c3 hc st ca top tl s3 _ _ _ _ _ _ _ _ _ _ _ _ _ _ _ _ _ _ _ _ _ _ _ _ x17) ?_
  rintro _ rfl
  refine later_i ?_
  rw [wp_sSeq]
  refine wp_mono (if7_ok cs c3 hc st ca top tl s3 _ _ _ _ _ _ _ _ _ _ _ _ _ _ _ _ _ _ _ _ _ _) ?_
  rintro _ rfl
  refine later_i ?_
  simp only [wp_sSeq, e_sParN, e_mCons, e_fLst, e_lNil, Option.bind_some, List.length_nil, sl_ok, Nat.zero_le, if_true, e_ofV, e_fTup, e_lCons, e_fName, List.getElem?_cons_succ, List.getElem?_cons_zero, Option.map_some, List.length_cons, e_mNil, putAll_cons, putAll_nil, free_cons, free_jk, List.set_cons_succ, List.set_cons_zero, flag_t, flag_f]
  rw [if_pos (by decide)]
  simp only [e_mNil, Option.map_some, Option.bind_some, putAll_cons, putAll_nil, free_cons, free_jk, List.set_cons_succ, List.set_cons_zero, flag_t, flag_f, if_true, wp_some]
  refine later_i ?_
  have v : Vo st (top + 1) (some (a, (top : Int), rg)) := by
    intro x p g z
    cases z
    omega
  rw [wp_sSeq]
  refine wp_mono (while_ok cs c3 hc st a top rg (top + 1) v (by omega) _ _ _ _ _ _ _ _ _ _ _ _ _ _ _ _ _ _ _ _ _ _ _ _) ?_
  rintro _ ⟨z20, rfl⟩
  refine later_i ?_
  rw [wp_sSeq]
  refine wp_mono (if10_ok cs c3 hc st ca a top tl s3 rg (top + 1) v (by omega) _ _ _ _ _ _ _ _ _ _ _ _ _ _ _ _ _ _ _ _) ?_
  rintro _ rfl
  refine later_i ?_
  obtain ⟨b, b0, b1, eb⟩ := next_ex hd n3 9 (by omega)
  simp only [wp_sSeq, e_sSet, e_fCallW, isOwn_s, isOwn_0, if_true, e_lCons, e_fC, e_lNil, Option.map_some, Option.bind_some, List.getElem?_cons_succ, List.getElem?_cons_zero, List.length_cons, List.length_nil, eb, List.set_cons_succ, List.set_cons_zero, free_cons, free_jk, flag_f, reduceCtorEq, if_false, wp_some]
  refine later_i ?_
  rw [wp_sSeq]
  refine wp_mono (if12_ok cs c3 hc b _ _ _ _ _ _ _ _ _ _ _ _ _ _ _ _ _ _ _ _ _ _ _ _ _ _) ?_
  rintro _ rfl
  refine later_i ?_
  obtain ⟨t, u0, u1, et⟩ := next_ex hd (n3 + 1) 12 (by omega)
  simp only [wp_sSeq, e_sSet, e_f2, e_toO, e_fCallW, isOwn_s, isOwn_0, if_true, e_lCons, e_fC, e_lNil, Option.map_some, Option.bind_some, List.getElem?_cons_succ, List.getElem?_cons_zero, List.length_cons, List.length_nil, et, List.set_cons_succ, List.set_cons_zero, e_svO, late_tv, late_sv, isI_ii, iSub_e, free_cons, free_jk, flag_f, reduceCtorEq, if_false, wp_some]
  refine later_i ?_
  have sp0 : 0 < (spI cs).length := by
    cases cs with
    | nil => simp at l1
    | cons c cs =>
      have g := (hc c (List.mem_cons_self ..)).s1
      refine List.length_pos_of_mem (a := c.beg) (spI_mem.mpr ⟨c, List.mem_cons_self .., by omega, by omega⟩)
  rw [wp_sSeq]
  refine wp_mono (asked_ok hd (n3 + 1 + 1) (spI cs) sp50 sp0 (t - 5) _ _ _ _ _ _ _ _ _ _ _ _ _ _ _ _ _ _ _ _ _ _ _ _ x23) ?_
  rintro _ ⟨a0, as, n4, al, am, rfl⟩
  refine later_i ?_
  rw [wp_sSeq]
  refine wp_mono (able_ok cs (a0 :: as) (by rw [List.length_cons]; omega) _ _ _ _ _ _ _ _ _ _ _ _ _ _ _ _ _ _ _ _ _ _ _ _ _ x25) ?_
  rintro _ rfl
  refine later_i ?_
  refine wp_mono (if16_ok cs (by omega) hc hp a0 as al (t - 5) (by omega) (by omega) am _ _ _ _ _ _ _ _ _ _ _ _ _ _ _ _ _ _ _ _ _ _ _) ?_
  rintro _ rfl
  exact ⟨rfl, n4, some (d, false), some (.tuple (cs.map eC), false), some (.list ((spI cs).map .int), false), y5, y6, y7, y8, some (eS st, false), some (.int a, false), some (.int top, false), some (eG rg, false), some (.tuple (ca.map .int), false), x14, some (.list ((gsI st ca top).map .int), false), x16, some (.list ((gsN st ca top).map fun n : Nat => oC (codeAt cs (stAt st n))), false), x18, some (.list ((rightOf cs st (top + 1) (some (a, (top : Int), rg))).map .int), true), some (z20, false), some (.int b, false), some (.int (t - 5), false), some (.tuple ((a0 :: as).map .int), false), x24, some (.list (((rgI (-60) 61).filter (offQ cs (a0 :: as))).map .int), true), x26, x27, rfl⟩

theorem turns_ok (ns : List Int) {dr : List Int} (hd : Ok997 dr) (ds : List D) (en : En) (h0 : ILw ns dr en) : Wp (forL (gN 2) (sSeq (sSet 3 (fCallW 0 1 (lNil) F__law_codes)) (sSeq (sSet 4 (fLst (lNil))) (sSeq (sFor (itV (fName 3)) (gT 4 (gsCons (gN 5) (gsCons (gN 6) (gsCons (gN 7) (gsCons (gN 8) (gsNil)))))) (sSet 4 (f2 (fSlot 4) (toO (fLr2 (fName 6) (toV (f2 (fSlot 6) (fSlot 7) (dAdd))))) (dAdd)))) (sSeq (sAsg (toV (fCallW 1 1 (lCons (fName 3) (lNil)) F__law_world)) (gT 4 (gsCons (gN 9) (gsCons (gN 10) (gsCons (gN 11) (gsCons (gN 12) (gsNil))))))) (sSeq (sSet 13 (fN (aCons (toO (fN (aCons (toO (f2 (toO (fLc [14] (itV (fName 4)) (gN 14) (tB1 (f2 (toO (fCallW 1 1 (lCons (fC (.int 2)) (lNil)) F__law_next)) (svO (fC (.int 0))) (dEq))) (fName 14))) (toO (fLst (lCons (toV (fCallW 1 1 (lCons (fC (.int 30)) (lNil)) F__law_next)) (lNil)))) (dAdd))) (aNil)) dSortSet)) (aNil)) dTuple)) (sSeq (sSet 15 (f1 (toO (fLc [16] (itR (aCons (toO (fN (aCons (fSlot 9) (aNil)) dLen)) (aNil)) range1D) (gN 16) (tAndF (tB1 (f2 (fSlot 16) (fSlot 11) (isI iLt))) (tB1 (f2 (toO (f2 (toO (f2 (fSlot 9) (fSlot 16) dIxA)) (svO (fC (.int 1))) (isI iSub))) (fSlot 13) (dIn)))) (fName 16))) dRev)) (sSeq (sSet 17 (fLc [16] (itV (fName 15)) (gN 16) (tTrue) (toV (fCall 2 (lCons (fName 3) (lCons (toV (f2 (fSlot 9) (fSlot 16) dIxA)) (lNil))) F__law_code_at)))) (sSeq (sIf (tOrF (tB1 (f2 (toO (fCall 4 (lCons (fName 3) (lCons (fName 9) (lCons (fName 11) (lCons (fName 13) (lNil))))) F_guesses)) (toO (fN (aCons (fSlot 15) (aNil)) dTuple)) (dNe))) (tB1 (f2 (toO (fCall 4 (lCons (fName 3) (lCons (fName 9) (lCons (fName 11) (lCons (fName 13) (lNil))))) F_guessed_names)) (toO (fN (aCons (toO (fLc [18] (itV (fName 17)) (gN 18) (tB1 (fIs (fSlot 18) (fun d => !isND d))) (toV (f2 (fSlot 18) (svO (fC (.int 0))) dIxA)))) (aNil)) dTuple)) (dNe)))) (sRet (ofV (fC (.bool false)))) (sNx)) (sSeq (sParN [19, 20] (mCons (fLst (lNil)) (mCons (ofV (fTup (lCons (fName 10) (lCons (fName 11) (lCons (fName 12) (lNil)))))) (mNil)))) (sSeq (whileL (tB1 (fIs (fSlot 20) (fun d => !isND d))) (sSeq (sSet 20 (fCall 5 (lCons (fName 3) (lCons (fName 9) (lCons (toV (f2 (fSlot 20) (svO (fC (.int 0))) dIxA)) (lCons (toV (f2 (fSlot 20) (svO (fC (.int 1))) dIxA)) (lCons (toV (f2 (fSlot 20) (svO (fC (.int 2))) dIxA)) (lNil)))))) F__law_caller)) (sSet 19 (f2 (fSlot 19) (toO (fIf (tB1 (fIs (fSlot 20) (fun d => !isND d))) (fLst (lCons (toV (f2 (fSlot 20) (svO (fC (.int 1))) dIxA)) (lNil))) (fLst (lNil)))) (dAdd)))) fuelN) (sSeq (sIf (tB1 (f2 (toO (fCall 6 (lCons (fName 3) (lCons (fName 9) (lCons (fName 10) (lCons (fName 11) (lCons (fName 12) (lCons (fName 13) (lNil))))))) F_false_guesses)) (toO (fN (aCons (toO (fN (aCons (toO (fLc [16] (itV (fName 15)) (gN 16) (tB1 (f2 (fSlot 16) (fSlot 19) (dNotIn))) (fName 16))) (aNil)) dSort)) (aNil)) dTuple)) (dNe))) (sRet (ofV (fC (.bool false)))) (sNx)) (sSeq (sSet 21 (fCallW 1 1 (lCons (fC (.int 9)) (lNil)) F__law_next)) (sSeq (sIf (tOrF (tB1 (f2 (toO (fCall 2 (lCons (fName 3) (lCons (fName 21) (lNil))) F_moved)) (toO (fN (aCons (toO (fLc [5, 6, 7, 8] (itV (fName 3)) (gT 4 (gsCons (gN 5) (gsCons (gN 6) (gsCons (gN 7) (gsCons (gN 8) (gsNil)))))) (tTrue) (fTup (lCons (fName 5) (lCons (toV (f2 (fSlot 6) (fSlot 21) (dAdd))) (lCons (fName 7) (lCons (fName 8) (lNil)))))))) (aNil)) dTuple)) (dNe))) (tB1 (f2 (toO (fCall 2 (lCons (toV (fCall 2 (lCons (fName 3) (lCons (fName 21) (lNil))) F_moved)) (lCons (toV (f2 (svO (fC (.int 0))) (fSlot 21) (isI iSub))) (lNil))) F_moved)) (fSlot 3) (dNe)))) (sRet (ofV (fC (.bool false)))) (sNx)) (sSeq (sSet 22 (f2 (toO (fCallW 1 1 (lCons (fC (.int 12)) (lNil)) F__law_next)) (svO (fC (.int 5))) (isI iSub))) (sSeq (sSet 23 (fN (aCons (toO (fLc [24] (itR (aCons (toO (f2 (svO (fC (.int 1))) (toO (fCallW 1 1 (lCons (fC (.int 3)) (lNil)) F__law_next)) (dAdd))) (aNil)) range1D) (gN 24) (tTrue) (toV (f2 (toO (f2 (fSlot 4) (toO (fCallW 1 1 (lCons (toV (fN (aCons (fSlot 4) (aNil)) dLen)) (lNil)) F__law_next)) dIxA)) (fSlot 22) (dAdd))))) (aNil)) dTuple)) (sSeq (sSet 25 (fLc [26] (itR (aCons (toO (f2 (svO (fC (.int 0))) (svO (fC (.int 60))) (isI iSub))) (aCons (svO (fC (.int 61))) (aNil))) range2D) (gN 26) (tB1 (f2 (toO (fLc [27] (itV (fName 23)) (gN 27) (tB1 (f2 (toO (f2 (fSlot 27) (fSlot 26) (isI iSub))) (fSlot 4) (dNotIn))) (fName 27))) (toO (fLst (lNil))) (dEq))) (fName 26))) (sIf (tOrF (tB1 (f2 (toO (fCall 2 (lCons (fName 3) (lCons (fName 23) (lNil))) F_offsets_for)) (toO (fN (aCons (fSlot 25) (aNil)) dTuple)) (dNe))) (tB1 (f2 (fSlot 22) (fSlot 25) (dNotIn)))) (sRet (ofV (fC (.bool false)))) (sNx)))))))))))))))))) ds en) fun y => y.1 = .nx ∧ ILw ns dr y.2 := by
  refine for_inv (fun ds en => ILw ns dr en) ?_ ?_ _ _ h0
  · rintro d r en ⟨n, x2, x3, x4, x5, x6, x7, x8, x9, x10, x11, x12, x13, x14, x15, x16, x17, x18, x19, x20, x21, x22, x23, x24, x25, x26, x27, rfl⟩
    rw [e_gN]
    simp only [free_cons, free_jk, if_true, List.set_cons_succ, List.set_cons_zero, wp_some]
    refine wp_mono (turn_ok ns hd n d x2 x3 x4 x5 x6 x7 x8 x9 x10 x11 x12 x13 x14 x15 x16 x17 x18 x19 x20 x21 x22 x23 x24 x25 x26 x27) ?_
    rintro ⟨o, en⟩ ⟨e, h⟩
    dsimp only at e
    subst e
    exact h
  · intro en h
    exact ⟨rfl, h⟩
theorem law_true (ns : List Int) (h : ns.length ≤ 63) : ∃ b, F_law [.list (ns.map .int)] = some (.bool true, b) := by
  have key : Wp (F_law [.list (ns.map .int)]) fun y => y.1 = .bool true := by
    show Wp (mk0 28 b_law _) _
    rw [mk0_e, wp_bind]
    show Wp (b_law [some (.list (ns.map .int), .sh), none, none, none, none, none, none, none, none, none, none, none, none, none, none, none, none, none, none, none, none, none, none, none, none, none, none, none]) _
    unfold b_law
    obtain ⟨y, e1, dr, hd, rfl⟩ := draws_ok ns h 200 (by omega)
    have e1 : F__law_draws [.list (ns.map .int), .int 200] = some (.list (dr.map .int), true) := e1
    have e2 : range1D [.int 5] = some (rngD 0 1 5) := range1_nat (n := 5) (by decide)
    have e3 : mergeD [] [((.inr (Str.ofString "draws") : Key), PyData.list (dr.map .int)), (.inr (Str.ofString "at"), .int 0)] = [(.str "draws", .list (dr.map .int)), (.str "at", .int (0 : Nat))] := by
      simp [mergeD, Fx.dictPut, kD, st1]
    rw [wp_sSeq, e_sSet, wp_bind, e_fDisp, wp_bind]
    simp only [e_lCons, e_fC, e_lNil, wp_bind, wp_map, wp_some, e_toV, e_fCall, e_fName]
    simp [e1]
    simp only [pairsFlat, keyOf_s, Option.bind_some, Option.map_some, e3, wp_some]
    simp
    refine later_i ?_
    rw [wp_sSeq, wp_sFor, wp_itR]
    simp [e2, -wp_sSeq]
    refine wp_mono (turns_ok ns hd _ _ ⟨0, none, none, none, none, none, none, none, none, none, none, none, none, none, none, none, none, none, none, none, none, none, none, none, none, none, none, rfl⟩) ?_
    rintro ⟨o, en⟩ ⟨e, n, x2, x3, x4, x5, x6, x7, x8, x9, x10, x11, x12, x13, x14, x15, x16, x17, x18, x19, x20, x21, x22, x23, x24, x25, x26, x27, e4⟩
    dsimp only at e e4
    subst e
    subst e4
    refine later_i ?_
    simp
  obtain ⟨⟨d, b⟩, e, hd⟩ := key
  dsimp only at hd
  subst hd
  exact ⟨b, e⟩

end Hd
namespace Hd
open PySem PySem.Spec L2 Fx
theorem facts {P : Program} {w : World} {K : PySem.W.Frag} {h : Heap} {mg : Str → Option Value} {f : Addr} (X : K.In h) (G : h.Ns mainGlobals mg) (hfa : mg ("law" : Str) = some (.ref f)) (c : He.SaysD fa fn K) :
    ∃ fd : FuncData, (∀ (s : Shared) (v : Value), BindsTo s fd ⟨[v], []⟩ [("script", v)]) ∧ ∀ base : Heap, K.In base → base.Ns mainGlobals mg → FnOk P w K mg base CX0 4 f fd ["script"] (sp0 K 1 F_law) := by
  obtain ⟨fd_rule_in, D_rule_in⟩ := c.def_ 0 (d := d_rule_in) rfl
  obtain ⟨fd_code_for, D_code_for⟩ := c.def_ 1 (d := d_code_for) rfl
  obtain ⟨fd_name_for, D_name_for⟩ := c.def_ 2 (d := d_name_for) rfl
  obtain ⟨fd_caller_of, D_caller_of⟩ := c.def_ 3 (d := d_caller_of) rfl
  obtain ⟨fd_guesses, D_guesses⟩ := c.def_ 4 (d := d_guesses) rfl
  obtain ⟨fd_guessed_names, D_guessed_names⟩ := c.def_ 5 (d := d_guessed_names) rfl
  obtain ⟨fd_false_guesses, D_false_guesses⟩ := c.def_ 6 (d := d_false_guesses) rfl
  obtain ⟨fd_moved, D_moved⟩ := c.def_ 7 (d := d_moved) rfl
  obtain ⟨fd_offsets_for, D_offsets_for⟩ := c.def_ 8 (d := d_offsets_for) rfl
  obtain ⟨fd__law_draws, D__law_draws⟩ := c.def_ 9 (d := d__law_draws) rfl
  obtain ⟨fd__law_next, D__law_next⟩ := c.def_ 10 (d := d__law_next) rfl
  obtain ⟨fd__law_codes, D__law_codes⟩ := c.def_ 11 (d := d__law_codes) rfl
  obtain ⟨fd__law_code_at, D__law_code_at⟩ := c.def_ 12 (d := d__law_code_at) rfl
  obtain ⟨fd__law_rule_at, D__law_rule_at⟩ := c.def_ 13 (d := d__law_rule_at) rfl
  obtain ⟨fd__law_caller, D__law_caller⟩ := c.def_ 14 (d := d__law_caller) rfl
  obtain ⟨fd__law_world, D__law_world⟩ := c.def_ 15 (d := d__law_world) rfl
  obtain ⟨fd_law, D_law⟩ := c.def_ 16 (d := d_law) rfl
  have g_rule_in := He.glo_ok X G (c.fact 0 (f := .glo "rule_in") rfl)
  have g_code_for := He.glo_ok X G (c.fact 1 (f := .glo "code_for") rfl)
  have g_name_for := He.glo_ok X G (c.fact 2 (f := .glo "name_for") rfl)
  have g_caller_of := He.glo_ok X G (c.fact 3 (f := .glo "caller_of") rfl)
  have g_guesses := He.glo_ok X G (c.fact 4 (f := .glo "guesses") rfl)
  have g_guessed_names := He.glo_ok X G (c.fact 5 (f := .glo "guessed_names") rfl)
  have g_false_guesses := He.glo_ok X G (c.fact 6 (f := .glo "false_guesses") rfl)
  have g_moved := He.glo_ok X G (c.fact 7 (f := .glo "moved") rfl)
  have g_offsets_for := He.glo_ok X G (c.fact 8 (f := .glo "offsets_for") rfl)
  have g__law_draws := He.glo_ok X G (c.fact 9 (f := .glo "_law_draws") rfl)
  have g__law_next := He.glo_ok X G (c.fact 10 (f := .glo "_law_next") rfl)
  have g__law_codes := He.glo_ok X G (c.fact 11 (f := .glo "_law_codes") rfl)
  have g__law_code_at := He.glo_ok X G (c.fact 12 (f := .glo "_law_code_at") rfl)
  have g__law_rule_at := He.glo_ok X G (c.fact 13 (f := .glo "_law_rule_at") rfl)
  have g__law_caller := He.glo_ok X G (c.fact 14 (f := .glo "_law_caller") rfl)
  have g__law_world := He.glo_ok X G (c.fact 15 (f := .glo "_law_world") rfl)
  have g_law := He.glo_ok X G (c.fact 16 (f := .glo "law") rfl)
  have M : Mg mg := ⟨He.free_ok X G (c.fact 17 (f := .free "abs") rfl), He.free_ok X G (c.fact 18 (f := .free "all") rfl), He.free_ok X G (c.fact 19 (f := .free "dict") rfl), He.free_ok X G (c.fact 20 (f := .free "int") rfl), He.free_ok X G (c.fact 21 (f := .free "len") rfl), He.free_ok X G (c.fact 22 (f := .free "list") rfl), He.free_ok X G (c.fact 23 (f := .free "range") rfl), He.free_ok X G (c.fact 24 (f := .free "set") rfl), He.free_ok X G (c.fact 25 (f := .free "sorted") rfl), He.free_ok X G (c.fact 26 (f := .free "tuple") rfl)⟩
  have e := hfa.symm.trans g_law
  cases e
  have b := FunD.bindsA (ps := ["script"]) D_law fun _ _ _ _ _ _ us hl => match us, hl with | [_], _ => rfl
  refine ⟨fd_law, fun s v => b s [v] rfl, fun base _ _ => ?_⟩
  have o_rule_in := ok_rule_in (P := P) (w := w) (base := base) M D_rule_in  g_rule_in
  have o_code_for := ok_code_for (P := P) (w := w) (base := base) M D_code_for  g_code_for
  have o_name_for := ok_name_for (P := P) (w := w) (base := base) M D_name_for o_code_for g_name_for
  have o_caller_of := ok_caller_of (P := P) (w := w) (base := base) M D_caller_of o_code_for o_rule_in g_caller_of
  have o_guesses := ok_guesses (P := P) (w := w) (base := base) M D_guesses  g_guesses
  have o_guessed_names := ok_guessed_names (P := P) (w := w) (base := base) M D_guessed_names o_guesses o_name_for g_guessed_names
  have o_false_guesses := ok_false_guesses (P := P) (w := w) (base := base) M D_false_guesses o_name_for o_caller_of o_guesses g_false_guesses
  have o_moved := ok_moved (P := P) (w := w) (base := base) M D_moved  g_moved
  have o_offsets_for := ok_offsets_for (P := P) (w := w) (base := base) M D_offsets_for  g_offsets_for
  have o__law_draws := ok__law_draws (P := P) (w := w) (base := base) M D__law_draws  g__law_draws
  have o__law_next := ok__law_next (P := P) (w := w) (base := base) M D__law_next  g__law_next
  have o__law_codes := ok__law_codes (P := P) (w := w) (base := base) M D__law_codes o__law_next g__law_codes
  have o__law_code_at := ok__law_code_at (P := P) (w := w) (base := base) M D__law_code_at  g__law_code_at
  have o__law_rule_at := ok__law_rule_at (P := P) (w := w) (base := base) M D__law_rule_at  g__law_rule_at
  have o__law_caller := ok__law_caller (P := P) (w := w) (base := base) M D__law_caller o__law_code_at o__law_rule_at g__law_caller
  have o__law_world := ok__law_world (P := P) (w := w) (base := base) M D__law_world o__law_next g__law_world
  exact fn_law M D_law o__law_draws o__law_codes o__law_world o__law_next o__law_code_at o_guesses o_guessed_names o__law_caller o_false_guesses o_moved o_offsets_for
end Hd
open PySem PySem.W PySem.Calls PyProof.Rows
theorem PySem.Challenge.cw_stepswatched_k15_guesses_on_stacks_holds : PySem.Challenge.rw_stepswatched_k15_guesses_on_stacks.Holds := by
  w_on; o_law
  refine HandSHeadRun.head_any (r := Hd.R) (q := view Hd.R.prog [19]) (H := Hd.hk) (ob := Hd.ob) (M := 4000) (loose := Hd.names) (d := HandSHeadRun.topDef Hd.R.prog 19) (kwd := []) Hd.ob_eq
    (by kernel_rfl) (fun s => by kernel_rfl) Hd.run (by kernel_rfl) (by kernel_rfl) (by kernel_rfl) (by rfl) (by first | assumption | decide +kernel) (by decide +kernel) ⟨rfl, rfl, rfl, rfl, rfl, by decide +kernel⟩ ?hw ?hc
  case hw => w_witness2
  case hc =>
    refine L2.walk_ofE (l := PySem.Challenge.rw_stepswatched_k15_guesses_on_stacks) (n := 63) (k := 4) (x := "script") (CX := L2.CX0) rfl (by decide) (by kernel_rfl) ⟨rfl, by decide, by decide⟩ ?F (fun _ _ _ _ z => z)
    intro w mg fa h Y G hmg0
    obtain ⟨K, KX, c⟩ := Y
    have hmg : mg ("law" : PySem.Str) = some (.ref fa) := by
      have e : (HandSHeadRun.topDef Hd.R.prog 19).name = ("law" : PySem.Str) := by kernel_rfl
      rw [← e]
      exact hmg0
    obtain ⟨fd, hb, hF⟩ := Hd.facts (P := Hd.R.prog) (w := w) KX G hmg c
    refine ⟨K, fd, Fx.sp0 K 1 Hd.F_law, KX, hb, fun H a ns hl _ hS => ?_, hF⟩
    obtain ⟨b, e⟩ := Hd.law_true ns hl
    refine ⟨H, [.list (ns.map .int)], .bool true, b, L2.Same.refl _, .cons (.lst hS (Fx.reps_ints ns)) .nil, rfl, e, fun v G' H' _ r => Fx.res_bool (G := H) (H := H) r⟩
